import PyProof.Rows.All
import Wide.All
import OpenK.AllK
import Wide.FinOn
import PyProof.EqAt
import PyProof.EqKinds
import PyProof.TupleCall
import HandS.ForMost
import HandS.ForExc
import HandS.CallSlots
import HandS.Lambda
import HandS.TupAny
import HandS.Style
import HandS.IsInst
import HandS.Codes
import KE.SortData
import HandS.SetKeys
import HandS.SetFor
import HandS.Defaults
import HandS.SortInts
import HandS.Strs
import KE.KDictPairs
import PyProof.StrOps2
import HandS.Text
import HandS.TupMul
import HandS.IntHex
import HandS.HeadHook3
import HandS.RaiseMore
import HandS.Zip
import KE.KWords
import KE.KStrOpen
import KE.KIntText
import PyProof.Rows.StrCase
import KE.KExcInit
import KE.KExcIs
import HandS.ExcInit
import HandS.ExcField
import HandS.ExcOwn
import HandS.ExcIs
import KE.KDictList
import HandS.More
import HandS.Conv
import KE.IntTextLaws
import PyProof.StrLawsChain
import PyProof.StrLawsTight
import PyProof.Rows.StrItems
import HandS.MakeKw
import HandS.SortKw
import HandS.Deep
import KE.GoesEnum
import KE.GoesEnumKw
import KE.GoesMore
import HandS.HotCalls
import KE.GoesZip
import HandS.OwnEq
import HandS.EndTab
import HandS.TryOnly
import HandS.Records
import PyProof.ListTruth
import HandS.FStr
import KE.DataCmp
import HandS.Dict
import KE.DataMinMax
import KE.KDictWalk
import HandS.Exc
import KE.KTryMore
import PyProof.DictUpdate
import PySem.Challenge.RW_whistleboard_k17_whole_crews
set_option Elab.async false
set_option linter.all false
set_option maxRecDepth 100000
set_option maxHeartbeats 0
namespace DL
open PySem L2
/-- (xtp: a tuple whose very object is known, without a dict of its own) data: None, truths, numbers, texts, tuples, lists that are changed no more, dicts that are changed no more, instances that are changed no more; exc: an exception in hand (its dict, its fields); ref: an object that may change, or one of the program's own -/
inductive D where
  | non | bl (b : Bool) | int (i : Int) | str (x : Str) | ty (n : String) | ref (a : Addr)
  | tup (xs : List D) | lst (xs : List D)
  | ktp (xs : List D)
  | xtp (xs : List D)
  | scr (ns : List Int)
  | dct (ks : List Key) (xs : List D)
  | ins (C : Addr) (ns : List Str) (xs : List D)
  | exc (a : Addr) (dx : Option Addr) (ns : List Str) (xs : List D)
  | fnv (f c : Addr) (q : Str) (vs : List V) (xs : List D)
  | fno (f : Addr) (o : HO) (c : Addr) (u : HO)
/-- objects that may change -/
inductive MO where
  | lst (xs : List D)
  | dK (kvs : List (Key × D))
  | dT (kvs : List (List Key × D))
  | ins (C : Addr) (fs : List (Str × D))
  | lk (ho : HO) (kvs : List (Key × D))
  | lkT (ho : HO) (kvs : List (List Key × D))
  | bag
  | tab (q : Str)
abbrev Mst := Addr → Option MO
/-- a key that is an int, or a text as they are -/
def kOk : Key → Prop
  | .inl _ => True
  | .inr x => x.length ≤ sizeLine ∧ PyData.strOk x = true
mutual
def Rep (K : PySem.W.Frag) (G : Hp) : D → V → Prop
  | .non, v => v = .non
  | .bl b, v => v = .bl b
  | .int i, v => v = .int i
  | .str x, v => v = .str x ∧ x.length ≤ sizeLine ∧ PyData.strOk x = true
  | .ty n, v => v = .ty n
  | .ref a, v => v = .ref a
  | .tup ds, v => ∃ a vs, v = .ref a ∧ G a = some (.tup vs) ∧ RepL K G ds vs ∧ vs.length ≤ sizeLine
  | .ktp ds, v => ∃ a vs, v = .ref a ∧ SqT K G a vs ∧ RepL K G ds vs ∧ vs.length ≤ sizeLine
  | .xtp ds, v => ∃ a o vs, v = .ref a ∧ G a = some (.frz o (.tup vs)) ∧ o.dict = none ∧ RepL K G ds vs ∧ vs.length ≤ sizeLine
  | .lst ds, v => ∃ a vs, v = .ref a ∧ G a = some (.lst vs) ∧ RepL K G ds vs ∧ vs.length ≤ sizeLine
  | .scr ns, v => ∃ a, v = .ref a ∧ SqL K G a (ns.map V.int) ∧ ns.length ≤ 63
  | .dct ks ds, v => ∃ a kvs, v = .ref a ∧ Rd G a (.dK kvs) ∧ kvs.map (·.1) = ks ∧ RepL K G ds (kvs.map (·.2)) ∧ kvs.length ≤ sizeLine ∧ ∀ k ∈ ks, kOk k
  | .ins C ns ds, v => ∃ a dx fs, v = .ref a ∧ G a = some (.ins C dx fs) ∧ fs.map (·.1) = ns ∧ RepL K G ds (fs.map (·.2))
  | .exc a dx ns ds, v => v = .ref a ∧ (ns = [] ∧ dx = none ∨ ∃ d fs, dx = some d ∧ G d = some (.xd fs) ∧ fs.map (·.1) = ns ∧ RepL K G ds (fs.map (·.2)))
  | .fnv f c q vs ds, v => v = .ref f ∧ G c = some (LamX.CodeO c q) ∧ RepL K G ds vs
  | .fno f o c u, v => v = .ref f ∧ G f = some o ∧ G c = some u
def RepL (K : PySem.W.Frag) (G : Hp) : List D → List V → Prop
  | [], vs => vs = []
  | d :: ds, vs => ∃ v r, vs = v :: r ∧ Rep K G d v ∧ RepL K G ds r
end
theorem same_rd {H H' : Hp} {a : Addr} {u : HO} (e : Same H H') (h : Rd H a u) : Rd H' a u := by
  rcases h with h | ⟨o, h⟩
  · exact .inl (e _ _ h)
  · exact .inr ⟨o, e _ _ h⟩
theorem same_t {K : PySem.W.Frag} {H H' : Hp} {a : Addr} {xs : List V} (e : Same H H') (h : SqT K H a xs) : SqT K H' a xs := by
  rcases h with h | h
  · exact .inl (same_rd e h)
  · exact .inr h
theorem same_l {K : PySem.W.Frag} {H H' : Hp} {a : Addr} {xs : List V} (e : Same H H') (h : SqL K H a xs) : SqL K H' a xs := e.seq h
mutual
theorem Rep.mono {K : PySem.W.Frag} {G G' : Hp} (e : Same G G') : ∀ (d : D) (v : V), Rep K G d v → Rep K G' d v
  | .non, _, h => h
  | .bl _, _, h => h
  | .int _, _, h => h
  | .str _, _, h => h
  | .ty _, _, h => h
  | .ref _, _, h => h
  | .tup ds, _, ⟨a, vs, h1, h2, h3, h4⟩ => ⟨a, vs, h1, e _ _ h2, RepL.mono e ds vs h3, h4⟩
  | .ktp ds, _, ⟨a, vs, h1, h2, h3, h4⟩ => ⟨a, vs, h1, same_t e h2, RepL.mono e ds vs h3, h4⟩
  | .xtp ds, _, ⟨a, o, vs, h1, h2, h3, h4, h5⟩ => ⟨a, o, vs, h1, e _ _ h2, h3, RepL.mono e ds vs h4, h5⟩
  | .lst ds, _, ⟨a, vs, h1, h2, h3, h4⟩ => ⟨a, vs, h1, e _ _ h2, RepL.mono e ds vs h3, h4⟩
  | .scr _, _, ⟨a, h1, h2, h3⟩ => ⟨a, h1, same_l e h2, h3⟩
  | .dct _ ds, _, ⟨a, kvs, h1, h2, h3, h4, h5, h6⟩ => ⟨a, kvs, h1, same_rd e h2, h3, RepL.mono e ds _ h4, h5, h6⟩
  | .ins _ _ ds, _, ⟨a, dx, fs, h1, h2, h3, h4⟩ => ⟨a, dx, fs, h1, e _ _ h2, h3, RepL.mono e ds _ h4⟩
  | .exc _ _ _ ds, _, ⟨h0, h⟩ => ⟨h0, h.imp id fun ⟨d, fs, h1, h2, h3, h4⟩ => ⟨d, fs, h1, e _ _ h2, h3, RepL.mono e ds _ h4⟩⟩
  | .fnv _ _ _ vs ds, _, ⟨h1, h2, h3⟩ => ⟨h1, e _ _ h2, RepL.mono e ds vs h3⟩
  | .fno _ _ _ _, _, ⟨h1, h2, h3⟩ => ⟨h1, e _ _ h2, e _ _ h3⟩
theorem RepL.mono {K : PySem.W.Frag} {G G' : Hp} (e : Same G G') : ∀ (ds : List D) (vs : List V), RepL K G ds vs → RepL K G' ds vs
  | [], _, h => h
  | d :: ds, _, ⟨v, r, h1, h2, h3⟩ => ⟨v, r, h1, Rep.mono e d v h2, RepL.mono e ds r h3⟩
end
section
variable {K : PySem.W.Frag} {G G' H H' : Hp} {d : D} {ds : List D} {v : V} {vs : List V}
theorem RepL.nil : RepL K G [] [] := rfl
theorem RepL.cons (h : Rep K G d v) (r : RepL K G ds vs) : RepL K G (d :: ds) (v :: vs) := ⟨v, vs, rfl, h, r⟩
theorem RepL.length : ∀ {ds : List D} {vs : List V}, RepL K G ds vs → vs.length = ds.length
  | [], _, h => by cases h; rfl
  | d :: ds, _, ⟨v, r, h1, h2, h3⟩ => by cases h1; simp [RepL.length h3]
theorem RepL.get : ∀ {ds : List D} {vs : List V} {i : Nat} {d : D}, RepL K G ds vs → ds[i]? = some d → ∃ v, vs[i]? = some v ∧ Rep K G d v
  | [], _, _, _, h, e => by simp at e
  | d :: ds, _, 0, _, ⟨v, r, h1, h2, h3⟩, e => by cases h1; simp at e; subst e; exact ⟨v, rfl, h2⟩
  | d :: ds, _, i + 1, _, ⟨v, r, h1, h2, h3⟩, e => by
    cases h1
    obtain ⟨u, a, b⟩ := RepL.get (i := i) h3 (by simpa using e)
    exact ⟨u, by simpa using a, b⟩
theorem RepL.append : ∀ {ds es : List D} {vs us : List V}, RepL K G ds vs → RepL K G es us → RepL K G (ds ++ es) (vs ++ us)
  | [], _, _, _, h, r => by cases h; simpa using r
  | d :: ds, _, _, _, ⟨v, q, h1, h2, h3⟩, r => by
    cases h1
    exact ⟨v, _, rfl, h2, RepL.append h3 r⟩
theorem RepL.take : ∀ {ds : List D} {vs : List V} (n : Nat), RepL K G ds vs → RepL K G (ds.take n) (vs.take n)
  | [], _, n, h => by cases h; simp; rfl
  | d :: ds, _, 0, h => by simp; rfl
  | d :: ds, _, n + 1, ⟨v, q, h1, h2, h3⟩ => by
    cases h1
    exact ⟨v, _, rfl, h2, RepL.take n h3⟩
theorem RepL.drop : ∀ {ds : List D} {vs : List V} (n : Nat), RepL K G ds vs → RepL K G (ds.drop n) (vs.drop n)
  | [], _, n, h => by cases h; simp; rfl
  | d :: ds, _, 0, h => by simpa using h
  | d :: ds, _, n + 1, ⟨v, q, h1, h2, h3⟩ => by
    cases h1
    simpa using RepL.drop n h3
theorem RepL.set : ∀ {ds : List D} {vs : List V} (n : Nat), RepL K G ds vs → Rep K G d v → RepL K G (ds.set n d) (vs.set n v)
  | [], _, n, h, _ => by cases h; simp; rfl
  | e :: ds, _, 0, ⟨w, q, h1, h2, h3⟩, r => by cases h1; exact ⟨v, _, rfl, r, h3⟩
  | e :: ds, _, n + 1, ⟨w, q, h1, h2, h3⟩, r => by
    cases h1
    exact ⟨w, _, rfl, h2, RepL.set n h3 r⟩
theorem RepL.reverse : ∀ {ds : List D} {vs : List V}, RepL K G ds vs → RepL K G ds.reverse vs.reverse
  | [], _, h => by cases h; simp; rfl
  | d :: ds, _, ⟨v, q, h1, h2, h3⟩ => by
    cases h1
    rw [List.reverse_cons, List.reverse_cons]
    exact RepL.append (RepL.reverse h3) (RepL.cons h2 rfl)
end
/-- what a mutable object is -/
def RepM (K : PySem.W.Frag) (G H : Hp) (a : Addr) : MO → Prop
  | .lst ds => ∃ vs, H a = some (.lst vs) ∧ RepL K G ds vs ∧ vs.length ≤ sizeLine
  | .dK kvs => ∃ kv : List (Key × V), H a = some (.dK kv) ∧ kv.map (·.1) = kvs.map (·.1) ∧ RepL K G (kvs.map (·.2)) (kv.map (·.2)) ∧ kv.length ≤ sizeLine ∧ ∀ q ∈ kvs, kOk q.1
  | .dT kvs => ∃ kv : List (List Key × V), H a = some (.dT kv) ∧ kv.map (·.1) = kvs.map (·.1) ∧ RepL K G (kvs.map (·.2)) (kv.map (·.2)) ∧ kv.length ≤ sizeLine ∧ ∀ q ∈ kvs, q.1.length ≤ sizeLine ∧ ∀ k ∈ q.1, kOk k
  | .ins C fs => ∃ dx fv, H a = some (.ins C dx fv) ∧ fv.map (·.1) = fs.map (·.1) ∧ RepL K G (fs.map (·.2)) (fv.map (·.2))
  | .lk ho kvs => ∃ (o : Obj) (kv : List (Key × V)), ho = .frz o (.dK kv) ∧ H a = some ho ∧ kv.map (·.1) = kvs.map (·.1) ∧ RepL K G (kvs.map (·.2)) (kv.map (·.2)) ∧ kv.length ≤ sizeLine ∧ ∀ q ∈ kvs, kOk q.1
  | .lkT ho kvs => ∃ (o : Obj) (kv : List (List Key × V)), ho = .frz o (.dT kv) ∧ H a = some ho ∧ kv.map (·.1) = kvs.map (·.1) ∧ RepL K G (kvs.map (·.2)) (kv.map (·.2)) ∧ kv.length ≤ sizeLine ∧ ∀ q ∈ kvs, q.1.length ≤ sizeLine ∧ ∀ k ∈ q.1, kOk k
  | .bag => ∃ g m : Int, H a = some (.lst [.int g, .int m]) ∧ 0 ≤ g ∧ 0 ≤ m ∧ m < 2147483648
  | .tab q => (∀ b ps, G b ≠ some (.tbl ps)) ∧ ∃ ps, H a = some (.tbl ps) ∧ PySem.TriplesOk ps.toList ∧ ∀ (pos : Pos) (cv : Value), codeAmong pos ps.toList = some cv → ∃ c, cv = .ref c ∧ G c = some (LamX.CodeO c q)
/-- no tables are known for good -/
def NoTab (G G' : Hp) : Prop := (∀ b ps, G b ≠ some (.tbl ps)) → ∀ b ps, G' b ≠ some (.tbl ps)
theorem NoTab.refl (G : Hp) : NoTab G G := fun h => h
theorem NoTab.upd {G : Hp} {a : Addr} {o : HO} (ho : ∀ ps, o ≠ .tbl ps) : NoTab G (L2.upd G a o) := fun h b ps e => by
  by_cases z : b = a
  · subst z; rw [upd_same] at e; cases e; exact ho ps rfl
  · rw [upd_ne z] at e; exact h b ps e
/-- the mutable objects stand in H, apart from what is known for good (G) -/
def MemOk (K : PySem.W.Frag) (G H : Hp) (M : Mst) : Prop := ∀ a o, M a = some o → G a = none ∧ RepM K G H a o
abbrev Rho := List (Option D)
/-- the slots, the heap and what is known of them -/
structure Sim (K : PySem.W.Frag) (G H : Hp) (p : Rho) (M : Mst) (s : St) : Prop where
  same : Same G H
  env : ∀ (i : Nat) (d : D), p[i]? = some (some d) → ∃ v, s[i]? = some (some v) ∧ Rep K G d v
  len : s.length = p.length
  mem : MemOk K G H M
/-- an exception: its class, its fields -/
structure DX where
  cls : Value
  fs : List (Str × D)
def RepX (K : PySem.W.Frag) (G : Hp) (x : DX) (cls : Value) (dx : Option Addr) : Prop :=
  cls = x.cls ∧ (x.fs = [] ∧ (∀ C, x.cls = .ref C → dx = none) ∨ ∃ d vf, dx = some d ∧ G d = some (.xd vf) ∧ vf.map (·.1) = x.fs.map (·.1) ∧ RepL K G (x.fs.map (·.2)) (vf.map (·.2)))
abbrev DK := D → Mst → Prop
abbrev DWt := DX → Rho → Mst → Prop
abbrev DTE := DWt → Rho → Mst → DK → Prop
abbrev DTT := DWt → Rho → Mst → (Bool → Mst → Prop) → Prop
abbrev DTA := DWt → Rho → Mst → (List D → Mst → Prop) → Prop
structure DEnds where
  nx : Rho → Mst → Prop
  rt : DK
  bk : Rho → Mst → Prop := fun _ _ => False
  ct : Rho → Mst → Prop := fun _ _ => False
abbrev DTS := DWt → DEnds → Rho → Mst → Prop
abbrev DTG := D → DWt → Rho → Mst → (Rho → Mst → Prop) → Prop
abbrev DTGs := List D → DWt → Rho → Mst → (Rho → Mst → Prop) → Prop
abbrev DOp := D → D → Mst → DK → Prop
abbrev DUn := D → Mst → DK → Prop
abbrev DCa := List D → Mst → DK → Prop
/-- a promise by data -/
abbrev DSp := List D → Mst → DK → (DX → Mst → Prop) → Prop
/-- the wish about exceptions -/
def WLink (K : PySem.W.Frag) (G : Hp) (DW : DWt) (W : WX) : Prop := ∀ G' H' p' M' s' x cls dx, Same G G' → Sim K G' H' p' M' s' → RepX K G' x cls dx → DW x p' M' → W cls dx s' H'
theorem WLink.mono {K : PySem.W.Frag} {G G' : Hp} {DW : DWt} {W : WX} (e : Same G G') (h : WLink K G DW W) : WLink K G' DW W :=
  fun G2 H' p' M' s' x cls dx e2 => h G2 H' p' M' s' x cls dx (e.trans e2)
def RefE (K : PySem.W.Frag) (W : WX) (t : TE) (q : DTE) : Prop := ∀ DW G H p M s (Q : DK) (Q' : VK), WLink K G DW W → Sim K G H p M s → q DW p M Q →
  (∀ G' H' M' d v, Same G G' → Sim K G' H' p M' s → Rep K G' d v → Q d M' → Q' v H') → t s H Q'
def RefT (K : PySem.W.Frag) (W : WX) (t : TT) (q : DTT) : Prop := ∀ DW G H p M s (Q : Bool → Mst → Prop) (Q' : Bool → Hp → Prop), WLink K G DW W → Sim K G H p M s → q DW p M Q →
  (∀ G' H' M' b, Same G G' → Sim K G' H' p M' s → Q b M' → Q' b H') → t s H Q'
def RefA (K : PySem.W.Frag) (W : WX) (t : TA) (q : DTA) : Prop := ∀ DW G H p M s (Q : List D → Mst → Prop) (Q' : List V → Hp → Prop), WLink K G DW W → Sim K G H p M s → q DW p M Q →
  (∀ G' H' M' ds vs, Same G G' → Sim K G' H' p M' s → RepL K G' ds vs → Q ds M' → Q' vs H') → t s H Q'
structure EndsOk (K : PySem.W.Frag) (G : Hp) (DE : DEnds) (E : Ends) : Prop where
  nx : ∀ G' H' p' M' s', Same G G' → Sim K G' H' p' M' s' → DE.nx p' M' → E.nx s' H'
  rt : ∀ G' H' p' M' s' d v, Same G G' → Sim K G' H' p' M' s' → Rep K G' d v → DE.rt d M' → E.rt v H'
  bk : ∀ G' H' p' M' s', Same G G' → Sim K G' H' p' M' s' → DE.bk p' M' → E.bk s' H'
  ct : ∀ G' H' p' M' s', Same G G' → Sim K G' H' p' M' s' → DE.ct p' M' → E.ct s' H'
theorem EndsOk.mono {K : PySem.W.Frag} {G G' : Hp} {DE : DEnds} {E : Ends} (e : Same G G') (h : EndsOk K G DE E) : EndsOk K G' DE E :=
  ⟨fun G2 H' p' M' s' e2 => h.nx G2 H' p' M' s' (e.trans e2), fun G2 H' p' M' s' d v e2 => h.rt G2 H' p' M' s' d v (e.trans e2),
    fun G2 H' p' M' s' e2 => h.bk G2 H' p' M' s' (e.trans e2), fun G2 H' p' M' s' e2 => h.ct G2 H' p' M' s' (e.trans e2)⟩
def RefS (K : PySem.W.Frag) (W : WX) (t : TS) (q : DTS) : Prop := ∀ DW G H p M s (DE : DEnds) (E : Ends), WLink K G DW W → Sim K G H p M s → q DW DE p M → EndsOk K G DE E → t E s H
/-- rules by values -/
def RefR2 (K : PySem.W.Frag) (r : R2) (q : DOp) : Prop := ∀ G H p M s x y v u (Q : DK) (Q' : VK), Sim K G H p M s → Rep K G x v → Rep K G y u → q x y M Q →
  (∀ G' H' M' d w, Same G G' → Sim K G' H' p M' s → Rep K G' d w → Q d M' → Q' w H') → r v u H Q'
def RefU (K : PySem.W.Frag) (r : V → Hp → VK → Prop) (q : DUn) : Prop := ∀ G H p M s x v (Q : DK) (Q' : VK), Sim K G H p M s → Rep K G x v → q x M Q →
  (∀ G' H' M' d w, Same G G' → Sim K G' H' p M' s → Rep K G' d w → Q d M' → Q' w H') → r v H Q'
def RefC (K : PySem.W.Frag) (r : List V → Hp → VK → Prop) (q : DCa) : Prop := ∀ G H p M s ds vs (Q : DK) (Q' : VK), Sim K G H p M s → RepL K G ds vs → q ds M Q →
  (∀ G' H' M' d w, Same G G' → Sim K G' H' p M' s → Rep K G' d w → Q d M' → Q' w H') → r vs H Q'
structure QE (X : Cx) (W : WX) (e : Expr) (t : TE) (q : DTE) : Prop where
  pe : PE X e t
  rf : RefE X.K W t q
structure QT (X : Cx) (W : WX) (e : Expr) (t : TT) (q : DTT) : Prop where
  pe : PT X e t
  rf : RefT X.K W t q
structure QW (X : Cx) (W : WX) (e : Expr) (t : TT) (q : DTT) : Prop where
  pe : PW X e t
  rf : RefT X.K W t q
structure QA (X : Cx) (W : WX) (es : List Expr) (t : TA) (q : DTA) : Prop where
  pe : PA X es t
  rf : RefA X.K W t q
structure QS (X : Cx) (W : WX) (st : Stmt) (t : TS) (q : DTS) : Prop where
  pe : PS X st t
  rf : RefS X.K W t q
structure QSs (X : Cx) (W : WX) (st : List Stmt) (t : TS) (q : DTS) : Prop where
  pe : PSs X st t
  rf : RefS X.K W t q
structure QOp (X : Cx) (f : Value → Value → Sem Value) (r : R2) (q : DOp) : Prop where
  op : OpR X f r
  rf : RefR2 X.K r q
structure QCa (X : Cx) (f : Value) (r : List V → Hp → VK → Prop) (q : DCa) : Prop where
  op : CallR X f r
  rf : RefC X.K r q
theorem QW.t {X : Cx} {W : WX} {e : Expr} {t : TT} {q : DTT} (h : QW X W e t q) : QT X W e t q := ⟨h.pe.pt, h.rf⟩
def put (M : Mst) (a : Addr) (o : MO) : Mst := fun b => if b = a then some o else M b
def del (M : Mst) (a : Addr) : Mst := fun b => if b = a then none else M b
section
variable {M : Mst} {a b : Addr} {o u : MO}
@[simp] theorem put_same : put M a o a = some o := by simp [put]
theorem put_ne (h : b ≠ a) : put M a o b = M b := by simp [put, h]
@[simp] theorem put_put : put (put M a o) a u = put M a u := by
  funext c; unfold put; split <;> rfl
@[simp] theorem del_put (h : M a = none) : del (put M a o) a = M := by
  funext c
  unfold del put
  split
  · next e => rw [e, h]
  · rfl
theorem put_comm (h : a ≠ b) : put (put M a o) b u = put (put M b u) a o := by
  funext c; unfold put
  by_cases h1 : c = b
  · by_cases h2 : c = a
    · exact absurd (h2.symm.trans h1) h
    · simp [h1, h2, Ne.symm h]
  · simp [h1]
theorem put_id (h : M a = some o) : put M a o = M := by
  funext c; unfold put; split
  · next e => rw [e, h]
  · rfl
end
section
variable {K : PySem.W.Frag} {G G' H H' : Hp} {p : Rho} {M : Mst} {s : St} {a : Addr} {o : HO} {mo : MO}
theorem RepM.mono {a : Addr} {mo : MO} (e : Same G G') (h : RepM K G H a mo) (hh : H' a = H a) (ht : NoTab G G') : RepM K G' H' a mo := by
  cases mo with
  | lst ds => obtain ⟨vs, h1, h2, h3⟩ := h; exact ⟨vs, hh.trans h1, RepL.mono e _ _ h2, h3⟩
  | dK kvs => obtain ⟨vs, h1, h2, h3, h4⟩ := h; exact ⟨vs, hh.trans h1, h2, RepL.mono e _ _ h3, h4⟩
  | dT kvs => obtain ⟨vs, h1, h2, h3, h4⟩ := h; exact ⟨vs, hh.trans h1, h2, RepL.mono e _ _ h3, h4⟩
  | ins C fs => obtain ⟨dx, vs, h1, h2, h3⟩ := h; exact ⟨dx, vs, hh.trans h1, h2, RepL.mono e _ _ h3⟩
  | lk ho kvs => obtain ⟨o, vs, h0, h1, h2, h3, h4⟩ := h; exact ⟨o, vs, h0, hh.trans h1, h2, RepL.mono e _ _ h3, h4⟩
  | lkT ho kvs => obtain ⟨o, vs, h0, h1, h2, h3, h4⟩ := h; exact ⟨o, vs, h0, hh.trans h1, h2, RepL.mono e _ _ h3, h4⟩
  | bag => obtain ⟨g, m, h1, h2⟩ := h; exact ⟨g, m, hh.trans h1, h2⟩
  | tab q => obtain ⟨nt, ps, h1, h2, h3⟩ := h; exact ⟨ht nt, ps, hh.trans h1, h2, fun pos cv hc => by obtain ⟨c, e1, e2⟩ := h3 pos cv hc; exact ⟨c, e1, e _ _ e2⟩⟩
theorem RepM.there (h : RepM K G H a mo) : ∃ o, H a = some o := by
  cases mo with
  | lst ds => obtain ⟨vs, h1, _⟩ := h; exact ⟨_, h1⟩
  | dK ds => obtain ⟨vs, h1, _⟩ := h; exact ⟨_, h1⟩
  | dT ds => obtain ⟨vs, h1, _⟩ := h; exact ⟨_, h1⟩
  | ins C ds => obtain ⟨dx, vs, h1, _⟩ := h; exact ⟨_, h1⟩
  | lk ho ds => obtain ⟨o, vs, _, h1, _⟩ := h; exact ⟨_, h1⟩
  | lkT ho ds => obtain ⟨o, vs, _, h1, _⟩ := h; exact ⟨_, h1⟩
  | bag => obtain ⟨g, vs, h1, _⟩ := h; exact ⟨_, h1⟩
  | tab q => obtain ⟨_, ps, h1, _⟩ := h; exact ⟨_, h1⟩
theorem MemOk.fresh (h : MemOk K G H M) (e : H a = none) : M a = none := by
  cases q : M a with
  | none => rfl
  | some u =>
    obtain ⟨o, r⟩ := (h a u q).2.there
    rw [e] at r; cases r
theorem Same.upd (e : Same G H) (hn : H a = none) : Same (upd G a o) (upd H a o) := fun b u q => by
  by_cases h : b = a
  · subst h; rw [upd_same] at q ⊢; exact q
  · rw [upd_ne h] at q ⊢; exact e _ _ q
theorem same_new (hn : H a = none) : Same H (upd H a o) := fun b u q => by rw [upd_ne (ne_of_none q hn)]; exact q
/-- what is frozen grows by what is not mutable -/
theorem MemOk.grow (h : MemOk K G H M) (e : Same G G') (ht : NoTab G G') (hk : ∀ b u, M b = some u → H' b = H b) (hg : ∀ b u, M b = some u → G' b = none) : MemOk K G' H' M := fun b u q =>
  ⟨hg b u q, (h b u q).2.mono e (hk b u q) ht⟩
/-- a new object that will not change -/
theorem Sim.made (S : Sim K G H p M s) (hn : H a = none) (ho : ∀ ps, o ≠ .tbl ps := by intro _ h; cases h) : Same G (L2.upd G a o) ∧ Sim K (L2.upd G a o) (L2.upd H a o) p M s := by
  have gn : G a = none := S.same.free hn
  have mn : M a = none := S.mem.fresh hn
  have e : Same G (L2.upd G a o) := same_new gn
  have ne : ∀ b u, M b = some u → b ≠ a := fun b u q z => by rw [z, mn] at q; cases q
  refine ⟨e, Same.upd S.same hn, fun i d q => ?_, S.len, S.mem.grow e (.upd ho) (fun b u q => upd_ne (ne b u q)) (fun b u q => by rw [upd_ne (ne b u q)]; exact (S.mem b u q).1)⟩
  obtain ⟨v, h1, h2⟩ := S.env i d q
  exact ⟨v, h1, Rep.mono e _ _ h2⟩
/-- a mutable object is new, or changes -/
theorem Sim.put (S : Sim K G H p M s) (hg : G a = none) (h : RepM K G (L2.upd H a o) a mo) : Sim K G (L2.upd H a o) p (put M a mo) s := by
  refine ⟨fun b u q => ?_, S.env, S.len, fun b u q => ?_⟩
  · rw [upd_ne (ne_of_none q hg)]; exact S.same b u q
  · by_cases e : b = a
    · subst e; rw [put_same] at q; cases q; exact ⟨hg, h⟩
    · rw [put_ne e] at q
      exact ⟨(S.mem b u q).1, (S.mem b u q).2.mono (Same.refl G) (upd_ne e) (.refl G)⟩
/-- a mutable list will change no more -/
theorem Sim.freeze {ds : List D} (S : Sim K G H p M s) (h : M a = some (.lst ds)) : ∃ G', Same G G' ∧ Sim K G' H p (del M a) s ∧ Rep K G' (.lst ds) (.ref a) := by
  obtain ⟨gn, vs, h1, h2, h3⟩ := S.mem _ _ h
  have e : Same G (L2.upd G a (.lst vs)) := same_new gn
  refine ⟨L2.upd G a (.lst vs), e, ⟨fun b u q => ?_, fun i d q => ?_, S.len, fun b u q => ?_⟩, a, vs, rfl, upd_same, RepL.mono e _ _ h2, h3⟩
  · by_cases z : b = a
    · subst z; rw [upd_same] at q; cases q; exact h1
    · rw [upd_ne z] at q; exact S.same _ _ q
  · obtain ⟨v, r1, r2⟩ := S.env i d q
    exact ⟨v, r1, Rep.mono e _ _ r2⟩
  · by_cases z : b = a
    · subst z; simp [del] at q
    · have q' : M b = some u := by simpa [del, z] using q
      exact ⟨by rw [upd_ne z]; exact (S.mem b u q').1, (S.mem b u q').2.mono e rfl (.upd fun _ h => by cases h)⟩
theorem Sim.freezeD {kvs : List (Key × D)} (S : Sim K G H p M s) (h : M a = some (.dK kvs)) : ∃ G', Same G G' ∧ Sim K G' H p (del M a) s ∧ Rep K G' (.dct (kvs.map (·.1)) (kvs.map (·.2))) (.ref a) := by
  obtain ⟨gn, vs, h1, h2, h3, h4, h5⟩ := S.mem _ _ h
  have e : Same G (L2.upd G a (.dK vs)) := same_new gn
  refine ⟨L2.upd G a (.dK vs), e, ⟨fun b u q => ?_, fun i d q => ?_, S.len, fun b u q => ?_⟩, a, vs, rfl, .inl upd_same, h2, RepL.mono e _ _ h3, h4, fun k hk => by obtain ⟨q, q1, rfl⟩ := List.mem_map.mp hk; exact h5 q q1⟩
  · by_cases z : b = a
    · subst z; rw [upd_same] at q; cases q; exact h1
    · rw [upd_ne z] at q; exact S.same _ _ q
  · obtain ⟨v, r1, r2⟩ := S.env i d q
    exact ⟨v, r1, Rep.mono e _ _ r2⟩
  · by_cases z : b = a
    · subst z; simp [del] at q
    · have q' : M b = some u := by simpa [del, z] using q
      exact ⟨by rw [upd_ne z]; exact (S.mem b u q').1, (S.mem b u q').2.mono e rfl (.upd fun _ h => by cases h)⟩
theorem Sim.freezeI {C : Addr} {fs : List (Str × D)} (S : Sim K G H p M s) (h : M a = some (.ins C fs)) : ∃ G', Same G G' ∧ Sim K G' H p (del M a) s ∧ Rep K G' (.ins C (fs.map (·.1)) (fs.map (·.2))) (.ref a) := by
  obtain ⟨gn, dx, vs, h1, h2, h3⟩ := S.mem _ _ h
  have e : Same G (L2.upd G a (.ins C dx vs)) := same_new gn
  refine ⟨L2.upd G a (.ins C dx vs), e, ⟨fun b u q => ?_, fun i d q => ?_, S.len, fun b u q => ?_⟩, a, dx, vs, rfl, upd_same, h2, RepL.mono e _ _ h3⟩
  · by_cases z : b = a
    · subst z; rw [upd_same] at q; cases q; exact h1
    · rw [upd_ne z] at q; exact S.same _ _ q
  · obtain ⟨v, r1, r2⟩ := S.env i d q
    exact ⟨v, r1, Rep.mono e _ _ r2⟩
  · by_cases z : b = a
    · subst z; simp [del] at q
    · have q' : M b = some u := by simpa [del, z] using q
      exact ⟨by rw [upd_ne z]; exact (S.mem b u q').1, (S.mem b u q').2.mono e rfl (.upd fun _ h => by cases h)⟩
end
end DL
namespace DL
open PySem L2
/-- what a mutable object holds now -/
def res (M : Mst) : D → D
  | .ref a => match M a with
    | some (.lst ds) => .lst ds
    | some (.dK kvs) => .dct (kvs.map (·.1)) (kvs.map (·.2))
    | some (.lk _ kvs) => .dct (kvs.map (·.1)) (kvs.map (·.2))
    | some (.ins C fs) => .ins C (fs.map (·.1)) (fs.map (·.2))
    | _ => .ref a
  | .ktp ds => .tup ds
  | .xtp ds => .tup ds
  | d => d
section
variable {M : Mst}
@[simp] theorem res_non : res M .non = .non := rfl
@[simp] theorem res_bl {b} : res M (.bl b) = .bl b := rfl
@[simp] theorem res_int {b} : res M (.int b) = .int b := rfl
@[simp] theorem res_str {b} : res M (.str b) = .str b := rfl
@[simp] theorem res_ty {b} : res M (.ty b) = .ty b := rfl
@[simp] theorem res_tup {b} : res M (.tup b) = .tup b := rfl
@[simp] theorem res_ktp {b} : res M (.ktp b) = .tup b := rfl
@[simp] theorem res_xtp {b} : res M (.xtp b) = .tup b := rfl
@[simp] theorem res_lst {b} : res M (.lst b) = .lst b := rfl
@[simp] theorem res_scr {b} : res M (.scr b) = .scr b := rfl
@[simp] theorem res_dct {b c} : res M (.dct b c) = .dct b c := rfl
@[simp] theorem res_exc {b c d e} : res M (.exc b c d e) = .exc b c d e := rfl
@[simp] theorem res_ins {b c d} : res M (.ins b c d) = .ins b c d := rfl
end
section
variable {K : PySem.W.Frag} {G H : Hp} {p : Rho} {M : Mst} {s : L2.St} {d : D} {v : V}
theorem as_lst {ds : List D} (S : Sim K G H p M s) (r : Rep K G d v) (h : res M d = .lst ds) : ∃ a vs, v = .ref a ∧ H a = some (.lst vs) ∧ RepL K G ds vs ∧ vs.length ≤ sizeLine := by
  cases d with
  | lst es =>
    cases h
    obtain ⟨a, vs, h1, h2, h3, h4⟩ := r
    exact ⟨a, vs, h1, S.same _ _ h2, h3, h4⟩
  | ref a =>
    simp only [res] at h
    split at h
    · next es e =>
      cases h
      obtain ⟨gn, vs, h1, h2, h3⟩ := S.mem _ _ e
      exact ⟨a, vs, r, h1, h2, h3⟩
    · cases h
    · cases h
    · cases h
    · cases h
  | _ => cases h
theorem as_tup {ds : List D} (S : Sim K G H p M s) (r : Rep K G d v) (h : res M d = .tup ds) : ∃ a vs, v = .ref a ∧ SqT K H a vs ∧ RepL K G ds vs ∧ vs.length ≤ sizeLine := by
  cases d with
  | tup es =>
    cases h
    obtain ⟨a, vs, h1, h2, h3, h4⟩ := r
    exact ⟨a, vs, h1, .inl (.inl (S.same _ _ h2)), h3, h4⟩
  | ktp es =>
    cases h
    obtain ⟨a, vs, h1, h2, h3, h4⟩ := r
    exact ⟨a, vs, h1, same_t S.same h2, h3, h4⟩
  | xtp es =>
    cases h
    obtain ⟨a, o, vs, h1, h2, h3, h4, h5⟩ := r
    exact ⟨a, vs, h1, .inl (.inr ⟨o, S.same _ _ h2⟩), h4, h5⟩
  | ref a =>
    simp only [res] at h
    split at h <;> cases h
  | _ => cases h
theorem as_str {x : Str} (r : Rep K G d v) (h : res M d = .str x) : v = .str x ∧ x.length ≤ sizeLine ∧ PyData.strOk x = true := by
  cases d with
  | str es => cases h; exact r
  | ref a =>
    simp only [res] at h
    split at h <;> cases h
  | _ => cases h
theorem as_int {x : Int} (r : Rep K G d v) (h : res M d = .int x) : v = .int x := by
  cases d with
  | int es => cases h; exact r
  | ref a =>
    simp only [res] at h
    split at h <;> cases h
  | _ => cases h
theorem as_bl {x : Bool} (r : Rep K G d v) (h : res M d = .bl x) : v = .bl x := by
  cases d with
  | bl es => cases h; exact r
  | ref a =>
    simp only [res] at h
    split at h <;> cases h
  | _ => cases h
theorem as_dct {ks : List Key} {ds : List D} (S : Sim K G H p M s) (r : Rep K G d v) (h : res M d = .dct ks ds) :
    ∃ a kvs, v = .ref a ∧ Rd H a (.dK kvs) ∧ kvs.map (·.1) = ks ∧ RepL K G ds (kvs.map (·.2)) ∧ kvs.length ≤ sizeLine ∧ ∀ k ∈ ks, kOk k := by
  cases d with
  | dct es fs =>
    cases h
    obtain ⟨a, vs, h1, h2, h3, h4, h5⟩ := r
    exact ⟨a, vs, h1, same_rd S.same h2, h3, h4, h5⟩
  | ref a =>
    simp only [res] at h
    split at h
    · cases h
    · next es e =>
      cases h
      obtain ⟨gn, vs, h1, h2, h3, h4, h5⟩ := S.mem _ _ e
      exact ⟨a, vs, r, .inl h1, h2, h3, h4, fun k hk => by obtain ⟨q, q1, rfl⟩ := List.mem_map.mp hk; exact h5 q q1⟩
    · next es e =>
      cases h
      obtain ⟨gn, o, vs, h0, h1, h2, h3, h4, h5⟩ := S.mem _ _ e
      exact ⟨a, vs, r, .inr ⟨o, by rw [← h0]; exact h1⟩, h2, h3, h4, fun k hk => by obtain ⟨q, q1, rfl⟩ := List.mem_map.mp hk; exact h5 q q1⟩
    · cases h
    · cases h
  | _ => cases h
theorem as_ins {C : Addr} {ns : List Str} {ds : List D} (S : Sim K G H p M s) (r : Rep K G d v) (h : res M d = .ins C ns ds) :
    ∃ a dx fs, v = .ref a ∧ H a = some (.ins C dx fs) ∧ fs.map (·.1) = ns ∧ RepL K G ds (fs.map (·.2)) := by
  cases d with
  | ins es fs gs =>
    cases h
    obtain ⟨a, dx, vs, h1, h2, h3, h4⟩ := r
    exact ⟨a, dx, vs, h1, S.same _ _ h2, h3, h4⟩
  | ref a =>
    simp only [res] at h
    split at h
    · cases h
    · cases h
    · cases h
    · next es e =>
      cases h
      obtain ⟨gn, dx, vs, h1, h2, h3⟩ := S.mem _ _ e
      exact ⟨a, dx, vs, r, h1, h2, h3⟩
    · cases h
  | _ => cases h
end
/-- a list that is made: to be changed later (m), or not -/
def newL (m : Bool) (ds : List D) (M : Mst) (Q : DK) : Prop :=
  match m with
  | true => ∀ a, M a = none → Q (.ref a) (put M a (.lst ds))
  | false => Q (.lst ds) M
@[simp] theorem newL_t {ds M Q} : newL true ds M Q = ∀ a, M a = none → Q (.ref a) (put M a (.lst ds)) := rfl
@[simp] theorem newL_f {ds M Q} : newL false ds M Q = Q (.lst ds) M := rfl
section
variable {K : PySem.W.Frag} {G H : Hp} {p : Rho} {M : Mst} {s : L2.St} {d : D} {v : V} {a : Addr}
theorem newL_ok {m : Bool} {ds : List D} {vs : List V} {Q : DK} {Q' : VK} (S : Sim K G H p M s) (hn : H a = none) (r : RepL K G ds vs) (hl : vs.length ≤ sizeLine) (h : newL m ds M Q)
    (k : ∀ G' H' M' d w, Same G G' → Sim K G' H' p M' s → Rep K G' d w → Q d M' → Q' w H') : Q' (.ref a) (upd H a (.lst vs)) := by
  cases m with
  | true =>
    have h1 := h a (S.mem.fresh hn)
    exact k G _ _ (.ref a) _ (Same.refl _) (S.put (mo := .lst ds) (S.same.free hn) ⟨vs, upd_same, r, hl⟩) rfl h1
  | false =>
    obtain ⟨e, S'⟩ := S.made (o := .lst vs) hn
    exact k _ _ _ (.lst ds) _ e S' ⟨a, vs, rfl, upd_same, RepL.mono e _ _ r, hl⟩ h
theorem newT_ok {ds : List D} {vs : List V} {Q : DK} {Q' : VK} (S : Sim K G H p M s) (hn : H a = none) (r : RepL K G ds vs) (hl : vs.length ≤ sizeLine) (h : Q (.tup ds) M)
    (k : ∀ G' H' M' d w, Same G G' → Sim K G' H' p M' s → Rep K G' d w → Q d M' → Q' w H') : Q' (.ref a) (upd H a (.tup vs)) := by
  obtain ⟨e, S'⟩ := S.made (o := .tup vs) hn
  exact k _ _ _ (.tup ds) _ e S' ⟨a, vs, rfl, upd_same, RepL.mono e _ _ r, hl⟩ h
end
theorem sz1000 {n : Nat} (h : n ≤ 100000) : n ≤ sizeLine := Nat.le_trans h (by rw [sizeLine_eq]; decide)
@[simp] def qVar (i : Nat) : DTE := fun _ p M Q => match p[i]? with | some (some d) => Q d M | _ => False
@[simp] def qC (d : D) : DTE := fun _ _ M Q => Q d M
section
variable {X : Cx} {W : WX} {x : Str} {pos : Pos}
theorem qe_var {i : Nat} (h : PE X (.Name x pos) (tVar i)) : QE X W (.Name x pos) (tVar i) (qVar i) := by
  refine ⟨h, fun DW G H p M s Q Q' hw S q k => ?_⟩
  unfold qVar at q
  split at q
  · next d e =>
    obtain ⟨v, h1, h2⟩ := S.env i d e
    exact ⟨v, h1, k G H M d v (Same.refl _) S h2 q⟩
  · exact q.elim
theorem qv (i : Nat) (hN : X.N[i]? = some x := by rfl) (hv : Vis X.env.scope x := by first | exact Or.inl rfl | exact Or.inr (Or.inl rfl) | exact Or.inr (Or.inr rfl)) (hd : (x == ("__debug__" : Str)) = false := by decide)
    (hcd : (x == ("__classdict__" : Str)) = false := by decide) : QE X W (.Name x pos) (tVar i) (qVar i) := qe_var (pe_var hN hv hd hcd)
theorem qe_c {e : Expr} {v : V} {d : D} (h : PE X e (tC v)) (r : ∀ G, Rep X.K G d v) : QE X W e (tC v) (qC d) :=
  ⟨h, fun DW G H p M s Q Q' hw S q k => k G H M d v (Same.refl _) S (r G) q⟩
theorem q_int {i j pos} : QE X W (.Constant (.int i) j pos) (tC (.int i)) (qC (.int i)) := qe_c pe_int fun _ => rfl
theorem q_bl {i j pos} : QE X W (.Constant (.bool i) j pos) (tC (.bl i)) (qC (.bl i)) := qe_c pe_bl fun _ => rfl
theorem q_non {j pos} : QE X W (.Constant .none j pos) (tC .non) (qC .non) := qe_c pe_non fun _ => rfl
theorem q_str {i j pos} (h : (decide (i.length ≤ 100000) && PyData.strOk i) = true := by decide +kernel) : QE X W (.Constant (.str i) j pos) (tC (.str i)) (qC (.str i)) :=
  qe_c pe_str fun _ => by
    rw [Bool.and_eq_true] at h
    exact ⟨rfl, sz1000 (of_decide_eq_true h.1), h.2⟩
/-- a constant of the module, a def, a class -/
theorem q_glob {x : Str} {v : V} {d : D} {u : Value} {pos : Pos} (hg : Gl X x) (hm : X.mg x = some u) (r : RelV v u) (rd : ∀ G, Rep X.K G d v) (hd : (x == ("__debug__" : Str)) = false := by decide) : QE X W (.Name x pos) (tC v) (qC d) :=
  qe_c (pe_glob hg hm r hd) rd
end
@[simp] def qNil : DTA := fun _ _ M Q => Q [] M
@[simp] def qCons (qa : DTE) (qr : DTA) : DTA := fun DW p M Q => qa DW p M fun x M1 => qr DW p M1 fun xs M2 => Q (x :: xs) M2
@[simp] def qTup (qa : DTA) : DTE := fun DW p M Q => qa DW p M fun ds M1 => ds.length ≤ 100000 ∧ Q (.tup ds) M1
@[simp] def qLst (m : Bool) (qa : DTA) : DTE := fun DW p M Q => qa DW p M fun ds M1 => ds.length ≤ 100000 ∧ newL m ds M1 Q
section
variable {X : Cx} {W : WX} {e : Expr} {es : List Expr} {te : TE} {qe : DTE} {t : TA} {q : DTA} {pos : Pos}
theorem qa_nil : QA X W [] tNil qNil := ⟨pa_nil, fun DW G H p M s Q Q' hw S q k => k G H M [] [] (Same.refl _) S rfl q⟩
theorem qa_cons (ha : QE X W e te qe) (hr : QA X W es t q) (hs : starEach (e :: es) X.env = (false, eval e X.env) :: starEach es X.env := by rfl) : QA X W (e :: es) (tCons te t) (qCons qe q) :=
  ⟨pa_cons ha.pe hr.pe hs, fun DW G H p M s Q Q' hw S h k => ha.rf DW G H p M s _ _ hw S h fun G1 H1 M1 d v e1 S1 r1 h1 =>
    hr.rf DW G1 H1 p M1 s _ _ (hw.mono e1) S1 h1 fun G2 H2 M2 ds vs e2 S2 r2 h2 => k G2 H2 M2 _ _ (e1.trans e2) S2 (RepL.cons (Rep.mono e2 _ _ r1) r2) h2⟩
theorem q_tup {x1} (h : QA X W es t q) : QE X W (.Tuple es x1 pos) (tTup t) (qTup q) :=
  ⟨pe_tup h.pe, fun DW G H p M s Q Q' hw S hq k => h.rf DW G H p M s _ _ hw S hq fun G1 H1 M1 ds vs e1 S1 r1 ⟨hl, h1⟩ =>
    have z : vs.length ≤ sizeLine := by rw [r1.length]; exact sz1000 hl
    ⟨z, fun a ha => newT_ok S1 ha r1 z h1 fun G2 H2 M2 d w e2 => k G2 H2 M2 d w (e1.trans e2)⟩⟩
theorem q_lst (m : Bool) (h : QA X W es t q) : QE X W (.List es pos) (tLst t) (qLst m q) :=
  ⟨pe_lst h.pe, fun DW G H p M s Q Q' hw S hq k => h.rf DW G H p M s _ _ hw S hq fun G1 H1 M1 ds vs e1 S1 r1 ⟨hl, h1⟩ =>
    have z : vs.length ≤ sizeLine := by rw [r1.length]; exact sz1000 hl
    ⟨z, fun a ha => newL_ok S1 ha r1 z h1 fun G2 H2 M2 d w e2 => k G2 H2 M2 d w (e1.trans e2)⟩⟩
end
@[simp] def qOp (o : DOp) (qa qb : DTE) : DTE := fun DW p M Q => qa DW p M fun x M1 => qb DW p M1 fun y M2 => o x y M2 Q
@[simp] def qUn (o : DUn) (qa : DTE) : DTE := fun DW p M Q => qa DW p M fun x M1 => o x M1 Q
@[simp] def qCB (r : DCa) (qa : DTA) : DTE := fun DW p M Q => qa DW p M fun xs M1 => r xs M1 Q
section
variable {K : PySem.W.Frag} {W : WX}
theorem ref_op {r : R2} {o : DOp} {ta tb : TE} {qa qb : DTE} (hr : RefR2 K r o) (ha : RefE K W ta qa) (hb : RefE K W tb qb) : RefE K W (tOp r ta tb) (qOp o qa qb) :=
  fun DW G H p M s Q Q' hw S h k => ha DW G H p M s _ _ hw S h fun G1 H1 M1 d v e1 S1 r1 h1 =>
    hb DW G1 H1 p M1 s _ _ (hw.mono e1) S1 h1 fun G2 H2 M2 d2 v2 e2 S2 r2 h2 => hr G2 H2 p M2 s d d2 v v2 Q Q' S2 (Rep.mono e2 _ _ r1) r2 h2 fun G3 H3 M3 d w e3 => k G3 H3 M3 d w ((e1.trans e2).trans e3)
theorem ref_un {r : V → Hp → VK → Prop} {o : DUn} {ta : TE} {qa : DTE} (hr : RefU K r o) (ha : RefE K W ta qa) : RefE K W (tUn r ta) (qUn o qa) :=
  fun DW G H p M s Q Q' hw S h k => ha DW G H p M s _ _ hw S h fun G1 H1 M1 d v e1 S1 r1 h1 => hr G1 H1 p M1 s d v Q Q' S1 r1 h1 fun G3 H3 M3 d w e3 => k G3 H3 M3 d w (e1.trans e3)
theorem ref_cb {r : List V → Hp → VK → Prop} {o : DCa} {ta : TA} {qa : DTA} (hr : RefC K r o) (ha : RefA K W ta qa) : RefE K W (tCB r ta) (qCB o qa) :=
  fun DW G H p M s Q Q' hw S h k => ha DW G H p M s _ _ hw S h fun G1 H1 M1 d v e1 S1 r1 h1 => hr G1 H1 p M1 s d v Q Q' S1 r1 h1 fun G3 H3 M3 d w e3 => k G3 H3 M3 d w (e1.trans e3)
end
section
variable {X : Cx} {W : WX} {a b : Expr} {ta tb : TE} {qa qb : DTE} {pos : Pos}
theorem q_op {op : Operator} {r : R2} {o : DOp} (ho : QOp X (binaryOp op) r o) (ha : QE X W a ta qa) (hb : QE X W b tb qb) : QE X W (.BinOp a op b pos) (tOp r ta tb) (qOp o qa qb) := ⟨pe_op ho.op ha.pe hb.pe, ref_op ho.rf ha.rf hb.rf⟩
theorem q_cmp {op : CmpOp} {r : R2} {o : DOp} (ho : QOp X (compareOp op) r o) (ha : QE X W a ta qa) (hb : QE X W b tb qb) (hm : behindInMarks op b = false := by first | exact nomark _ | rfl) : QE X W (.Compare a [op] [b] pos) (tOp r ta tb) (qOp o qa qb) := ⟨pe_cmpR ho.op ha.pe hb.pe hm, ref_op ho.rf ha.rf hb.rf⟩
/-- a truth as a test -/
@[simp] def qTB (q : DTE) : DTT := fun DW p M Q => q DW p M fun d M1 => match d with | .bl b => Q b M1 | _ => False
theorem ref_tb {K : PySem.W.Frag} {t : TE} {q : DTE} (h : RefE K W t q) : RefT K W (tTest t) (qTB q) := fun DW G H p M s Q Q' hw S hq k => h DW G H p M s _ _ hw S hq fun G1 H1 M1 d v e1 S1 r1 h1 => by
  cases d with
  | bl b => cases r1; exact ⟨b, rfl, k G1 H1 M1 b e1 S1 h1⟩
  | _ => exact h1.elim
theorem ref_tb' {K : PySem.W.Frag} {t : TE} {q : DTE} (h : RefE K W t q) : RefT K W (tB t) (qTB q) := ref_tb h
theorem qt_cmp {op : CmpOp} {r : R2} {o : DOp} (ho : QOp X (compareOp op) r o) (ha : QE X W a ta qa) (hb : QE X W b tb qb) (hm : behindInMarks op b = false := by first | exact nomark _ | rfl) : QT X W (.Compare a [op] [b] pos) (tTest (tOp r ta tb)) (qTB (qOp o qa qb)) := ⟨pt_cmpR ho.op ha.pe hb.pe hm, ref_tb (ref_op ho.rf ha.rf hb.rf)⟩
theorem qt_val (ha : QE X W a ta qa) (he : ∀ whole, isTrue a X.env whole = (do let v ← whole; standAt a.pos; holding [v] (truthy v)) := by intro _; rfl) : QT X W a (tB ta) (qTB qa) := ⟨pt_val ha.pe he, ref_tb' ha.rf⟩
def qChain (o o' : DOp) (qa qb qc : DTE) : DTE := fun DW p M Q => qa DW p M fun x M1 => qb DW p M1 fun y M2 => o x y M2 fun z M3 => match z with
  | .bl k => if k = true then qc DW p M3 fun w M4 => o' y w M4 Q else Q (.bl false) M3
  | _ => False
theorem ref_chain {K : PySem.W.Frag} {r r' : R2} {o o' : DOp} {tc : TE} {qc : DTE} (hr : RefR2 K r o) (hr' : RefR2 K r' o') (ha : RefE K W ta qa) (hb : RefE K W tb qb) (hc : RefE K W tc qc) : RefE K W (tChain r r' ta tb tc) (qChain o o' qa qb qc) :=
  fun DW G H p M s Q Q' hw S h k => ha DW G H p M s _ _ hw S h fun G1 H1 M1 d v e1 S1 r1 h1 =>
    hb DW G1 H1 p M1 s _ _ (hw.mono e1) S1 h1 fun G2 H2 M2 d2 v2 e2 S2 r2 h2 => hr G2 H2 p M2 s d d2 v v2 _ _ S2 (Rep.mono e2 _ _ r1) r2 h2 fun G3 H3 M3 d3 w e3 S3 r3 h3 => by
      cases d3 with
      | bl b =>
        cases r3
        refine ⟨b, rfl, ?_⟩
        cases b with
        | false =>
          rw [if_neg Bool.false_ne_true]
          exact k G3 H3 M3 (.bl false) _ ((e1.trans e2).trans e3) S3 rfl h3
        | true =>
          rw [if_pos rfl]
          exact hc DW G3 H3 p M3 s _ _ (hw.mono ((e1.trans e2).trans e3)) S3 h3 fun G4 H4 M4 d4 v4 e4 S4 r4 h4 =>
            hr' G4 H4 p M4 s d2 d4 v2 v4 Q Q' S4 (Rep.mono (e3.trans e4) _ _ r2) r4 h4 fun G5 H5 M5 d w e5 => k G5 H5 M5 d w ((((e1.trans e2).trans e3).trans e4).trans e5)
      | _ => exact h3.elim
theorem q_chain {op op' : CmpOp} {r r' : R2} {o o' : DOp} {c : Expr} {tc : TE} {qc : DTE} (ho : QOp X (compareOp op) r o) (ho' : QOp X (compareOp op') r' o') (ha : QE X W a ta qa) (hb : QE X W b tb qb) (hc : QE X W c tc qc)
    (hm : lastMarks [op, op'] [b, c] = false := by with_unfolding_all rfl) : QE X W (.Compare a [op, op'] [b, c] pos) (tChain r r' ta tb tc) (qChain o o' qa qb qc) :=
  ⟨pe_chain ho.op ho'.op ha.pe hb.pe hc.pe hm, ref_chain ho.rf ho'.rf ha.rf hb.rf hc.rf⟩
theorem qt_chain {op op' : CmpOp} {r r' : R2} {o o' : DOp} {c : Expr} {tc : TE} {qc : DTE} (ho : QOp X (compareOp op) r o) (ho' : QOp X (compareOp op') r' o') (ha : QE X W a ta qa) (hb : QE X W b tb qb) (hc : QE X W c tc qc)
    (hm : lastMarks [op, op'] [b, c] = false := by with_unfolding_all rfl) : QT X W (.Compare a [op, op'] [b, c] pos) (tTest (tChain r r' ta tb tc)) (qTB (qChain o o' qa qb qc)) :=
  ⟨pt_chain ho.op ho'.op ha.pe hb.pe hc.pe hm, ref_tb (ref_chain ho.rf ho'.rf ha.rf hb.rf hc.rf)⟩
@[simp] def qAnd (qt qu : DTT) : DTT := fun DW p M Q => qt DW p M fun c M1 => if c = true then qu DW p M1 Q else Q false M1
@[simp] def qOr (qt qu : DTT) : DTT := fun DW p M Q => qt DW p M fun c M1 => if c = true then Q true M1 else qu DW p M1 Q
@[simp] def qNot (qt : DTT) : DTT := fun DW p M Q => qt DW p M fun c M1 => Q (!c) M1
variable {t u : TT} {qt qu : DTT} {rest : List Expr}
theorem qw_and1 (h : QT X W a t qt) : QW X W (.BoolOp .And [a] pos) t qt := ⟨pw_and1 h.pe, h.rf⟩
theorem qw_or1 (h : QT X W a t qt) : QW X W (.BoolOp .Or [a] pos) t qt := ⟨pw_or1 h.pe, h.rf⟩
theorem qw_and (h : QT X W a t qt) (g : QW X W (.BoolOp .And (b :: rest) pos) u qu) : QW X W (.BoolOp .And (a :: b :: rest) pos) (tAnd t u) (qAnd qt qu) :=
  ⟨pw_and h.pe g.pe, fun DW G H p M s Q Q' hw S hq k => h.rf DW G H p M s _ _ hw S hq fun G1 H1 M1 c e1 S1 h1 => by
    cases c with
    | true =>
      rw [if_pos rfl] at h1 ⊢
      exact g.rf DW G1 H1 p M1 s _ _ (hw.mono e1) S1 h1 fun G2 H2 M2 c e2 => k G2 H2 M2 c (e1.trans e2)
    | false =>
      rw [if_neg Bool.false_ne_true] at h1 ⊢
      exact k G1 H1 M1 false e1 S1 h1⟩
theorem qw_or (h : QT X W a t qt) (g : QW X W (.BoolOp .Or (b :: rest) pos) u qu) : QW X W (.BoolOp .Or (a :: b :: rest) pos) (tOr t u) (qOr qt qu) :=
  ⟨pw_or h.pe g.pe, fun DW G H p M s Q Q' hw S hq k => h.rf DW G H p M s _ _ hw S hq fun G1 H1 M1 c e1 S1 h1 => by
    cases c with
    | true =>
      rw [if_pos rfl] at h1 ⊢
      exact k G1 H1 M1 true e1 S1 h1
    | false =>
      rw [if_neg Bool.false_ne_true] at h1 ⊢
      exact g.rf DW G1 H1 p M1 s _ _ (hw.mono e1) S1 h1 fun G2 H2 M2 c e2 => k G2 H2 M2 c (e1.trans e2)⟩
theorem qt_not (h : QT X W a t qt) : QT X W (.UnaryOp .Not a pos) (tNot t) (qNot qt) :=
  ⟨pt_not h.pe, fun DW G H p M s Q Q' hw S hq k => h.rf DW G H p M s _ _ hw S hq fun G1 H1 M1 c e1 S1 h1 => k G1 H1 M1 _ e1 S1 h1⟩
/-- as values, all truths -/
@[simp] def qAndV (qa qb : DTE) : DTE := fun DW p M Q => qa DW p M fun x M1 => match x with
  | .bl c => if c = true then qb DW p M1 Q else Q (.bl false) M1
  | _ => False
@[simp] def qOrV (qa qb : DTE) : DTE := fun DW p M Q => qa DW p M fun x M1 => match x with
  | .bl c => if c = true then Q (.bl true) M1 else qb DW p M1 Q
  | _ => False
@[simp] def qNotV (qa : DTE) : DTE := fun DW p M Q => qa DW p M fun x M1 => match x with
  | .bl c => Q (.bl (!c)) M1
  | _ => False
theorem q_one {op} (h : QE X W a ta qa) : QE X W (.BoolOp op [a] pos) ta qa := ⟨pe_one h.pe, h.rf⟩
theorem q_and (h : QE X W a ta qa) (g : QE X W (.BoolOp .And (b :: rest) pos) tb qb) : QE X W (.BoolOp .And (a :: b :: rest) pos) (tAndV ta tb) (qAndV qa qb) :=
  ⟨pe_and h.pe g.pe, fun DW G H p M s Q Q' hw S hq k => h.rf DW G H p M s _ _ hw S hq fun G1 H1 M1 d v e1 S1 r1 h1 => by
    cases d with
    | bl c =>
      cases r1
      refine ⟨c, rfl, ?_⟩
      cases c with
      | true =>
        rw [if_pos rfl]
        exact g.rf DW G1 H1 p M1 s _ _ (hw.mono e1) S1 h1 fun G2 H2 M2 d v e2 => k G2 H2 M2 d v (e1.trans e2)
      | false =>
        rw [if_neg Bool.false_ne_true]
        exact k G1 H1 M1 (.bl false) _ e1 S1 rfl h1
    | _ => exact h1.elim⟩
theorem q_not (h : QE X W a ta qa) : QE X W (.UnaryOp .Not a pos) (tNotV ta) (qNotV qa) :=
  ⟨pe_not h.pe, fun DW G H p M s Q Q' hw S hq k => h.rf DW G H p M s _ _ hw S hq fun G1 H1 M1 d v e1 S1 r1 h1 => by
    cases d with
    | bl c => cases r1; exact ⟨c, rfl, k G1 H1 M1 (.bl (!c)) _ e1 S1 rfl h1⟩
    | _ => exact h1.elim⟩
@[simp] def qIf (qt : DTT) (qa qb : DTE) : DTE := fun DW p M Q => qt DW p M fun c M1 => if c = true then qa DW p M1 Q else qb DW p M1 Q
theorem q_if {c : Expr} (h : QT X W c t qt) (ha : QE X W a ta qa) (hb : QE X W b tb qb) : QE X W (.IfExp c a b pos) (tIf t ta tb) (qIf qt qa qb) :=
  ⟨pe_ifExp h.pe ha.pe hb.pe, fun DW G H p M s Q Q' hw S hq k => h.rf DW G H p M s _ _ hw S hq fun G1 H1 M1 c e1 S1 h1 => by
    cases c with
    | true =>
      rw [if_pos rfl] at h1 ⊢
      exact ha.rf DW G1 H1 p M1 s _ _ (hw.mono e1) S1 h1 fun G2 H2 M2 d v e2 => k G2 H2 M2 d v (e1.trans e2)
    | false =>
      rw [if_neg Bool.false_ne_true] at h1 ⊢
      exact hb.rf DW G1 H1 p M1 s _ _ (hw.mono e1) S1 h1 fun G2 H2 M2 d v e2 => k G2 H2 M2 d v (e1.trans e2)⟩
end
section
variable {X : Cx} {W : WX} {x : Str} {p pos : Pos} {e : Expr} {es : List Expr} {t : TA} {q : DTA} {id T : String} {r : List V → Hp → VK → Prop} {o : DCa}
theorem q_callB (hc : QCa X (.builtin id) r o) (hg : Gl X x) (hm : X.mg x = none) (hv : bootBuiltins x = some (.builtin id)) (ha : QA X W (e :: es) t q) (hn : x ≠ "__name__" := by decide) (hdb : (x == ("__debug__" : Str)) = false := by decide)
    (he : starEach (e :: es) X.env = (false, eval e X.env) :: starEach es X.env := by rfl) (hpl : (backTo pos (starEach es X.env)).any (·.1) = false := by rfl) : QE X W (.Call (.Name x p) (e :: es) [] pos) (tCB r t) (qCB o q) :=
  ⟨pe_callB hc.op hg hm hv ha.pe hn hdb he hpl, ref_cb hc.rf ha.rf⟩
theorem q_callTy (hc : QCa X (.type T) r o) (hg : Gl X x) (hm : X.mg x = none) (hv : bootBuiltins x = some (.type T)) (ha : QA X W (e :: es) t q) (hn : x ≠ "__name__" := by decide) (hdb : (x == ("__debug__" : Str)) = false := by decide)
    (he : starEach (e :: es) X.env = (false, eval e X.env) :: starEach es X.env := by rfl) (hpl : (backTo pos (starEach es X.env)).any (·.1) = false := by rfl) : QE X W (.Call (.Name x p) (e :: es) [] pos) (tCB r t) (qCB o q) :=
  ⟨pe_callTy hc.op hg hm hv ha.pe hn hdb he hpl, ref_cb hc.rf ha.rf⟩
end
end DL
namespace DL
open PySem L2
theorem OpR.or {X : Cx} {f : Value → Value → Sem Value} {r r' : R2} (h : OpR X f r) (h' : OpR X f r') : OpR X f (fun x y H Q => r x y H Q ∨ r' x y H Q) := by
  intro pins s σ H x y v u Q I rx ry q
  rcases q with q | q
  · exact h pins s σ H x y v u Q I rx ry q
  · exact h' pins s σ H x y v u Q I rx ry q
theorem CallR.or {X : Cx} {f : Value} {r r' : List V → Hp → VK → Prop} (h : CallR X f r) (h' : CallR X f r') : CallR X f (fun xs H Q => r xs H Q ∨ r' xs H Q) := by
  intro pins s σ H xs us Q I rs q
  rcases q with q | q
  · exact h pins s σ H xs us Q I rs q
  · exact h' pins s σ H xs us Q I rs q
mutual
def pyd : D → PyData
  | .non => .none
  | .bl b => .bool b
  | .int i => .int i
  | .str x => .str x
  | .tup ds => .tuple (pydL ds)
  | .ktp ds => .tuple (pydL ds)
  | .xtp ds => .tuple (pydL ds)
  | .lst ds => .list (pydL ds)
  | _ => .none
def pydL : List D → List PyData
  | [] => []
  | d :: ds => pyd d :: pydL ds
end
mutual
def isData : D → Bool
  | .non => true
  | .bl _ => true
  | .int _ => true
  | .str _ => true
  | .tup ds => isDataL ds
  | .ktp ds => isDataL ds
  | .xtp ds => isDataL ds
  | .lst ds => isDataL ds
  | _ => false
def isDataL : List D → Bool
  | [] => true
  | d :: ds => isData d && isDataL ds
end
/-- how deep -/
def dep (d : D) : Nat := (pyd d).depth
mutual
theorem dp_of {K : PySem.W.Frag} {G H : Hp} (e : Same G H) : ∀ (d : D) (v : V), isData d = true → Rep K G d v → Dp K H v (pyd d)
  | .non, _, _, h => by cases h; exact .non
  | .bl b, _, _, h => by cases h; exact .bl b
  | .int i, _, _, h => by cases h; exact .int i
  | .str x, _, _, h => by obtain ⟨h, _⟩ := h; subst h; exact .str x
  | .tup ds, _, i, ⟨a, vs, h1, h2, h3, h4⟩ => by subst h1; exact .tup (.inl (.inl (e _ _ h2))) (dpl_of e ds vs i h3)
  | .ktp ds, _, i, ⟨a, vs, h1, h2, h3, h4⟩ => by subst h1; exact .tup (same_t e h2) (dpl_of e ds vs i h3)
  | .xtp ds, _, i, ⟨a, o, vs, h1, h2, h3, h4, h5⟩ => by subst h1; exact .tup (.inl (.inr ⟨o, e _ _ h2⟩)) (dpl_of e ds vs i h4)
  | .lst ds, _, i, ⟨a, vs, h1, h2, h3, h4⟩ => by subst h1; exact .lst (.inl (.inl (e _ _ h2))) (dpl_of e ds vs i h3)
  | .scr _, _, i, _ => by cases i
  | .ty _, _, i, _ => by cases i
  | .ref _, _, i, _ => by cases i
  | .dct _ _, _, i, _ => by cases i
  | .ins _ _ _, _, i, _ => by cases i
  | .exc _ _ _ _, _, i, _ => by cases i
  | .fnv _ _ _ _ _, _, i, _ => by cases i
  | .fno _ _ _ _, _, i, _ => by cases i
theorem dpl_of {K : PySem.W.Frag} {G H : Hp} (e : Same G H) : ∀ (ds : List D) (vs : List V), isDataL ds = true → RepL K G ds vs → DpAll K H vs (pydL ds)
  | [], _, _, h => by cases h; exact .nil
  | d :: ds, _, i, ⟨v, r, h1, h2, h3⟩ => by
    subst h1
    have i' : isData d = true ∧ isDataL ds = true := by simpa [isDataL] using i
    exact .cons (dp_of e d v i'.1 h2) (dpl_of e ds r i'.2 h3)
end
mutual
theorem lay_of {K : PySem.W.Frag} {G : Hp} : ∀ (d : D) (v : V), isData d = true → Rep K G d v → (pyd d).canLay0 = true
  | .non, _, _, _ => rfl
  | .bl b, _, _, _ => rfl
  | .int i, _, _, _ => rfl
  | .str x, _, _, h => h.2.2
  | .tup ds, _, i, ⟨a, vs, h1, h2, h3, h4⟩ => layl_of ds vs i h3
  | .ktp ds, _, i, ⟨a, vs, h1, h2, h3, h4⟩ => layl_of ds vs i h3
  | .xtp ds, _, i, ⟨a, o, vs, h1, h2, h3, h4, h5⟩ => layl_of ds vs i h4
  | .lst ds, _, i, ⟨a, vs, h1, h2, h3, h4⟩ => layl_of ds vs i h3
  | .scr _, _, i, _ => by cases i
  | .ty _, _, i, _ => by cases i
  | .ref _, _, i, _ => by cases i
  | .dct _ _, _, i, _ => by cases i
  | .ins _ _ _, _, i, _ => by cases i
  | .exc _ _ _ _, _, i, _ => by cases i
  | .fnv _ _ _ _ _, _, i, _ => by cases i
  | .fno _ _ _ _, _, i, _ => by cases i
theorem layl_of {K : PySem.W.Frag} {G : Hp} : ∀ (ds : List D) (vs : List V), isDataL ds = true → RepL K G ds vs → PyData.canLayAll0 (pydL ds) = true
  | [], _, _, _ => rfl
  | d :: ds, _, i, ⟨v, r, h1, h2, h3⟩ => by
    have i' : isData d = true ∧ isDataL ds = true := by simpa [isDataL] using i
    simp only [pydL, PyData.canLayAll0, Bool.and_eq_true]
    exact ⟨lay_of d v i'.1 h2, layl_of ds r i'.2 h3⟩
end
theorem data_of {K : PySem.W.Frag} {G H : Hp} {p : Rho} {M : Mst} {s : L2.St} {d e : D} {v : V} (S : Sim K G H p M s) (r : Rep K G d v) (h : res M d = e) (i : isData e = true) : Dp K H v (pyd e) ∧ (pyd e).canLay0 = true := by
  cases d with
  | ref a =>
    cases e with
    | lst es =>
      obtain ⟨a, vs, h1, h2, h3, h4⟩ := as_lst S r h
      subst h1
      exact ⟨.lst (.inl (.inl h2)) (dpl_of S.same _ _ i h3), layl_of _ _ i h3⟩
    | _ =>
      simp only [res] at h
      split at h <;> first | (cases h; done) | (cases h; cases i)
  | ktp es =>
    cases h
    exact ⟨dp_of S.same (.ktp es) v i r, lay_of (.ktp es) v i r⟩
  | xtp es =>
    cases h
    exact ⟨dp_of S.same (.xtp es) v i r, lay_of (.xtp es) v i r⟩
  | _ => cases h; exact ⟨dp_of S.same _ v i r, lay_of _ v i r⟩
def rEqX (K : PySem.W.Frag) (neg : Bool) : R2 := fun x y H Q => ∃ d e, Dp K H x d ∧ Dp K H y e ∧ d.canLay0 = true ∧ e.canLay0 = true ∧ min d.depth e.depth ≤ 64 ∧ Q (.bl (xor neg (PyData.eqv d e))) H
theorem op_eqX {X : Cx} (hu : X.A.units + 64 < cLine) : OpR X (compareOp .Eq) (rEqX X.K false) := by
  intro pins s σ H x y v u Q I rx ry h
  obtain ⟨d, e, hd, he, sd, se, hm, q⟩ := h
  obtain ⟨as, r1⟩ := Dp.reads I d x v hd rx
  obtain ⟨bs, r2⟩ := Dp.reads I e y u he ry
  refine SeqAt.compareEq_reads r1 r2 sd se (by omega) ⟨.bl _, H, I, rfl, ?_⟩
  simpa using q
theorem op_neX {X : Cx} (hu : X.A.units + 64 < cLine) : OpR X (compareOp .NotEq) (rEqX X.K true) := by
  intro pins s σ H x y v u Q I rx ry h
  obtain ⟨d, e, hd, he, sd, se, hm, q⟩ := h
  obtain ⟨as, r1⟩ := Dp.reads I d x v hd rx
  obtain ⟨bs, r2⟩ := Dp.reads I e y u he ry
  refine SeqAt.compareNe_reads r1 r2 sd se (by omega) ⟨.bl _, H, I, rfl, ?_⟩
  simpa using q
/-- == of data -/
def deq (x y : D) : Bool := PyData.eqv (pyd x) (pyd y)
def deqL (x y : List D) : Bool := PyData.eqvAll (pydL x) (pydL y)
def dEq (neg : Bool) : DOp := fun x y M Q => isData (res M x) = true ∧ isData (res M y) = true ∧ min (dep (res M x)) (dep (res M y)) ≤ 64 ∧ Q (.bl (xor neg (deq (res M x) (res M y)))) M
theorem ref_eq {K : PySem.W.Frag} {neg : Bool} : RefR2 K (rEqX K neg) (dEq neg) := fun G H p M s x y v u Q Q' S r1 r2 ⟨i1, i2, hm, q⟩ k => by
  obtain ⟨a1, a2⟩ := data_of S r1 rfl i1
  obtain ⟨b1, b2⟩ := data_of S r2 rfl i2
  exact ⟨_, _, a1, b1, a2, b2, hm, k G H M (.bl _) _ (Same.refl _) S rfl q⟩
theorem o_eq {X : Cx} (hu : X.A.units + 64 < cLine) : QOp X (compareOp .Eq) (rEqX X.K false) (dEq false) := ⟨op_eqX hu, ref_eq⟩
theorem o_ne {X : Cx} (hu : X.A.units + 64 < cLine) : QOp X (compareOp .NotEq) (rEqX X.K true) (dEq true) := ⟨op_neX hu, ref_eq⟩
def dInt (C : Int → Int → Prop) (g : Int → Int → Int) : DOp := fun x y M Q => match x, y with
  | .int i, .int j => C i j ∧ Q (.int (g i j)) M
  | _, _ => False
theorem ref_int {K : PySem.W.Frag} {C : Int → Int → Prop} {g : Int → Int → Int} : RefR2 K (rI C fun i j => .int (g i j)) (dInt C g) := fun G H p M s x y v u Q Q' S r1 r2 h k => by
  cases x with
  | int i =>
    cases y with
    | int j => cases r1; cases r2; exact ⟨i, j, rfl, rfl, h.1, k G H M (.int (g i j)) _ (Same.refl _) S rfl h.2⟩
    | _ => exact h.elim
  | _ => exact h.elim
def dInt0 (g : Int → Int → Int) : DOp := fun x y M Q => match x, y with
  | .int i, .int j => Q (.int (g i j)) M
  | _, _ => False
theorem ref_int0 {K : PySem.W.Frag} {g : Int → Int → Int} : RefR2 K (rI0 fun i j => .int (g i j)) (dInt0 g) := fun G H p M s x y v u Q Q' S r1 r2 h k => by
  cases x with
  | int i =>
    cases y with
    | int j => cases r1; cases r2; exact ⟨i, j, rfl, rfl, k G H M (.int (g i j)) _ (Same.refl _) S rfl h⟩
    | _ => exact h.elim
  | _ => exact h.elim
theorem o_sub {X : Cx} : QOp X (binaryOp .Sub) (rI0 fun i j => .int (i - j)) (dInt0 fun i j => i - j) := ⟨op_sub, ref_int0⟩
theorem o_mulI {X : Cx} : QOp X (binaryOp .Mult) (rI CMul fun i j => .int (i * j)) (dInt CMul fun i j => i * j) := ⟨op_mul, ref_int⟩
theorem o_fdiv {X : Cx} : QOp X (binaryOp .FloorDiv) (rI CDiv fun i j => .int (i / j)) (dInt CDiv fun i j => i / j) := ⟨op_fdiv, ref_int⟩
theorem o_mod {X : Cx} : QOp X (binaryOp .Mod) (rI (fun _ j => 0 < j) fun i j => .int (i % j)) (dInt (fun _ j => 0 < j) fun i j => i % j) := ⟨op_mod, ref_int⟩
theorem o_pow {X : Cx} : QOp X (binaryOp .Pow) (rI CPow fun i j => .int (i ^ j.toNat)) (dInt CPow fun i j => i ^ j.toNat) := ⟨op_pow, ref_int⟩
/-- <, <=, >, >= of whole numbers; < of texts -/
def dCmpI (g : Int → Int → Bool) : DOp := fun x y M Q => match x, y with
  | .int i, .int j => Q (.bl (g i j)) M
  | _, _ => False
theorem ref_cmpI {K : PySem.W.Frag} {g : Int → Int → Bool} : RefR2 K (rI0 fun i j => .bl (g i j)) (dCmpI g) := fun G H p M s x y v u Q Q' S r1 r2 h k => by
  cases x with
  | int i =>
    cases y with
    | int j => cases r1; cases r2; exact ⟨i, j, rfl, rfl, k G H M (.bl (g i j)) _ (Same.refl _) S rfl h⟩
    | _ => exact h.elim
  | _ => exact h.elim
theorem o_lt {X : Cx} : QOp X (compareOp .Lt) (rI0 fun i j => .bl (decide (i < j))) (dCmpI fun i j => decide (i < j)) := ⟨op_lt, ref_cmpI⟩
theorem o_le {X : Cx} : QOp X (compareOp .LtE) (rI0 fun i j => .bl (decide (i ≤ j))) (dCmpI fun i j => decide (i ≤ j)) := ⟨op_le, ref_cmpI⟩
theorem o_gt {X : Cx} : QOp X (compareOp .Gt) (rI0 fun i j => .bl (decide (j < i))) (dCmpI fun i j => decide (j < i)) := ⟨op_gt, ref_cmpI⟩
theorem o_ge {X : Cx} : QOp X (compareOp .GtE) (rI0 fun i j => .bl (decide (j ≤ i))) (dCmpI fun i j => decide (j ≤ i)) := ⟨op_ge, ref_cmpI⟩
def dNeg : DUn := fun x M Q => match x with
  | .int i => Q (.int (-i)) M
  | _ => False
theorem ref_neg {K : PySem.W.Frag} : RefU K (rU fun i => .int (-i)) dNeg := fun G H p M s x v Q Q' S r1 h k => by
  cases x with
  | int i => cases r1; exact ⟨i, rfl, k G H M (.int (-i)) _ (Same.refl _) S rfl h⟩
  | _ => exact h.elim
theorem q_neg {X : Cx} {W : WX} {a : Expr} {ta : TE} {qa : DTE} {pos : Pos} (ha : QE X W a ta qa) : QE X W (.UnaryOp .USub a pos) (tUn (rU fun i => .int (-i)) ta) (qUn dNeg qa) := ⟨pe_un un_neg ha.pe, ref_un ref_neg ha.rf⟩
def isNon : D → Bool
  | .non => true
  | _ => false
theorem isNon_of {K : PySem.W.Frag} {G : Hp} {d : D} {v : V} (r : Rep K G d v) : decide (v = .non) = isNon d := by
  cases d with
  | non => cases r; rfl
  | bl b => cases r; rfl
  | int b => cases r; rfl
  | ty b => cases r; rfl
  | ref b => cases r; rfl
  | str x => obtain ⟨r, _⟩ := r; subst r; rfl
  | tup x => obtain ⟨a, vs, r, _⟩ := r; subst r; rfl
  | ktp x => obtain ⟨a, vs, r, _⟩ := r; subst r; rfl
  | xtp x => obtain ⟨a, o, vs, r, _⟩ := r; subst r; rfl
  | lst x => obtain ⟨a, vs, r, _⟩ := r; subst r; rfl
  | scr x => obtain ⟨a, r, _⟩ := r; subst r; rfl
  | dct x y => obtain ⟨a, vs, r, _⟩ := r; subst r; rfl
  | ins x y z => obtain ⟨a, vs, fs, r, _⟩ := r; subst r; rfl
  | fnv x y z _ _ => obtain ⟨r, _⟩ := r; subst r; rfl
  | fno x y z w => obtain ⟨r, _⟩ := r; subst r; rfl
  | exc x y z w => obtain ⟨r, _⟩ := r; subst r; rfl
def dIs (neg : Bool) : DOp := fun x y M Q => match y with
  | .non => Q (.bl (xor neg (isNon x))) M
  | _ => False
theorem o_is {X : Cx} : QOp X (compareOp .Is) (fun x y H Q => y = .non ∧ Q (.bl (decide (x = .non))) H) (dIs false) := ⟨op_isN, fun G H p M s x y v u Q Q' S r1 r2 h k => by
  cases y with
  | non =>
    cases r2
    exact ⟨rfl, k G H M (.bl (isNon x)) _ (Same.refl _) S (by rw [isNon_of r1]; rfl) (by simpa [dIs] using h)⟩
  | _ => exact h.elim⟩
theorem o_isnot {X : Cx} : QOp X (compareOp .IsNot) (fun x y H Q => y = .non ∧ Q (.bl (!decide (x = .non))) H) (dIs true) := ⟨op_notN, fun G H p M s x y v u Q Q' S r1 r2 h k => by
  cases y with
  | non =>
    cases r2
    exact ⟨rfl, k G H M (.bl (!isNon x)) _ (Same.refl _) S (by rw [isNon_of r1]; rfl) (by simpa [dIs] using h)⟩
  | _ => exact h.elim⟩
theorem strOk_append {a b : Str} (h1 : PyData.strOk a = true) (h2 : PyData.strOk b = true) : PyData.strOk (a ++ b) = true := by
  have e : (a ++ b).cps = a.cps ++ b.cps := rfl
  unfold PyData.strOk at *
  rw [e, Array.all_append, h1, h2]; rfl
theorem len_append {a b : Str} : (a ++ b).length = a.length + b.length := by
  show (a.cps ++ b.cps).size = _
  rw [Array.size_append]; rfl
def rAddX (K : PySem.W.Frag) : R2 := fun x y H Q => rI0 (fun i j => .int (i + j)) x y H Q ∨ (∃ i j, x = .str i ∧ y = .str j ∧ i.length + j.length ≤ sizeLine ∧ Q (.str (i ++ j)) H) ∨ rCat x y H Q ∨ rCatA K x y H Q ∨ ∃ b j, x = .bl b ∧ y = .int j ∧ Q (.int ((if b = true then 1 else 0) + j)) H
theorem op_add_bi {X : Cx} : OpR X (binaryOp .Add) (fun x y H Q => ∃ b j, x = .bl b ∧ y = .int j ∧ Q (.int ((if b = true then 1 else 0) + j)) H) := by
  intro pins s σ H x y v u Q I rx ry h
  obtain ⟨k, i, rfl, rfl, q⟩ := h
  obtain ⟨t, rfl⟩ := ry
  cases rx
  exact IntBool.add_bool_int ⟨.int ((if k = true then 1 else 0) + i), H, I.tok _, ⟨_, rfl⟩, q⟩
def dAdd (m : Bool) : DOp := fun x y M Q => match x, y with
  | .tup a, .tup b => a.length + b.length ≤ 100000 ∧ Q (.tup (a ++ b)) M
  | _, _ => match res M x, res M y with
    | .int i, .int j => Q (.int (i + j)) M
    | .str a, .str b => a.length + b.length ≤ 100000 ∧ Q (.str (a ++ b)) M
    | .lst a, .lst b => a.length + b.length ≤ 100000 ∧ newL m (a ++ b) M Q
    | .bl k, .int j => Q (.int ((if k = true then 1 else 0) + j)) M
    | .tup a, .tup b => a.length + b.length ≤ 100000 ∧ (a = [] → Q y M) ∧ (a ≠ [] → b = [] → Q x M) ∧ (a ≠ [] → b ≠ [] → Q (.tup (a ++ b)) M)
    | _, _ => False
theorem ref_add {K : PySem.W.Frag} {m : Bool} : RefR2 K (rAddX K) (dAdd m) := fun G H p M s x y v u Q Q' S r1 r2 h k => by
  unfold dAdd at h
  split at h
  · next a b =>
    obtain ⟨a1, vs, rfl, h1, h2, h3⟩ := r1
    obtain ⟨b1, us, rfl, g1, g2, g3⟩ := r2
    have z : vs.length + us.length ≤ sizeLine := by rw [h2.length, g2.length]; exact sz1000 h.1
    refine .inr (.inr (.inr (.inl ⟨a1, b1, vs, us, rfl, rfl, .inl (.inl (S.same _ _ h1)), .inl (.inl (S.same _ _ g1)), z, fun e => ?_, fun _ e => ?_, fun _ _ q hq => newT_ok S hq (RepL.append h2 g2) (by rw [List.length_append]; exact z) h.2 k⟩)))
    · have ea : a = [] := List.eq_nil_of_length_eq_zero (by rw [← h2.length, e]; rfl)
      refine k G H M (.tup b) _ (Same.refl _) S ⟨b1, us, rfl, g1, g2, g3⟩ ?_
      have := h.2; rw [ea] at this; simpa using this
    · have ea : b = [] := List.eq_nil_of_length_eq_zero (by rw [← g2.length, e]; rfl)
      refine k G H M (.tup a) _ (Same.refl _) S ⟨a1, vs, rfl, h1, h2, h3⟩ ?_
      have := h.2; rw [ea] at this; simpa using this
  · split at h
    · next i j e1 e2 =>
      cases as_int r1 e1
      cases as_int r2 e2
      exact .inl ⟨i, j, rfl, rfl, k G H M (.int (i + j)) _ (Same.refl _) S rfl h⟩
    · next a b e1 e2 =>
      obtain ⟨rfl, l1, o1⟩ := as_str r1 e1
      obtain ⟨rfl, l2, o2⟩ := as_str r2 e2
      exact .inr (.inl ⟨a, b, rfl, rfl, sz1000 h.1, k G H M (.str (a ++ b)) _ (Same.refl _) S ⟨rfl, by rw [len_append]; exact sz1000 h.1, strOk_append o1 o2⟩ h.2⟩)
    · next a b e1 e2 =>
      obtain ⟨a1, vs, rfl, h1, h2, h3⟩ := as_lst S r1 e1
      obtain ⟨b1, us, rfl, g1, g2, g3⟩ := as_lst S r2 e2
      have z : vs.length + us.length ≤ sizeLine := by rw [h2.length, g2.length]; exact sz1000 h.1
      exact .inr (.inr (.inl ⟨a1, b1, vs, us, rfl, rfl, h1, g1, z, fun q hq => newL_ok S hq (RepL.append h2 g2) (by rw [List.length_append]; exact z) h.2 k⟩))
    · next b j e1 e2 =>
      cases as_bl r1 e1
      cases as_int r2 e2
      exact .inr (.inr (.inr (.inr ⟨b, j, rfl, rfl, k G H M (.int _) _ (Same.refl _) S rfl h⟩)))
    · next a b e1 e2 =>
      obtain ⟨a1, vs, rfl, h1, h2, h3⟩ := as_tup S r1 e1
      obtain ⟨b1, us, rfl, g1, g2, g3⟩ := as_tup S r2 e2
      obtain ⟨hl, k0, k1, k2⟩ := h
      have z : vs.length + us.length ≤ sizeLine := by rw [h2.length, g2.length]; exact sz1000 hl
      have ev : vs = [] ↔ a = [] := ⟨fun e => List.eq_nil_of_length_eq_zero (by rw [← h2.length, e]; rfl), fun e => List.eq_nil_of_length_eq_zero (by rw [h2.length, e]; rfl)⟩
      have eu : us = [] ↔ b = [] := ⟨fun e => List.eq_nil_of_length_eq_zero (by rw [← g2.length, e]; rfl), fun e => List.eq_nil_of_length_eq_zero (by rw [g2.length, e]; rfl)⟩
      exact .inr (.inr (.inr (.inl ⟨a1, b1, vs, us, rfl, rfl, h1, g1, z, fun e => k G H M y _ (Same.refl _) S r2 (k0 (ev.mp e)), fun e0 e => k G H M x _ (Same.refl _) S r1 (k1 (fun q => e0 (ev.mpr q)) (eu.mp e)),
        fun e0 e q hq => newT_ok S hq (RepL.append h2 g2) (by rw [List.length_append]; exact z) (k2 (fun q => e0 (ev.mpr q)) fun q => e (eu.mpr q)) k⟩)))
    · exact h.elim
theorem o_add {X : Cx} (m : Bool) : QOp X (binaryOp .Add) (rAddX X.K) (dAdd m) := ⟨OpR.or op_add (OpR.or op_add_str (OpR.or op_cat (OpR.or op_catA op_add_bi))), ref_add⟩
def keyD : D → Option Key
  | .int i => some (.inl i)
  | .str x => some (.inr x)
  | _ => none
def keysD : List D → Option (List Key)
  | [] => some []
  | d :: ds => match keyD d, keysD ds with
    | some k, some ks => some (k :: ks)
    | _, _ => none
def valD {κ : Type} [DecidableEq κ] (kvs : List (κ × D)) (k : κ) : Option D := (kvs.find? fun kv => decide (kv.1 = k)).map (·.2)
/-- what a dict holds at a key; none: no dict, or no key of its kind -/
def dgetD (M : Mst) (x y : D) : Option (Option D) := match x with
  | .ref a => match M a with
    | some (.dK kvs) => (keyD y).map (valD kvs)
    | some (.lk _ kvs) => (keyD y).map (valD kvs)
    | some (.dT kvs) => match y with
      | .tup ds => (keysD ds).map (valD kvs)
      | _ => none
    | some (.lkT _ kvs) => match y with
      | .tup ds => (keysD ds).map (valD kvs)
      | _ => none
    | _ => none
  | .dct ks ds => (keyD y).map (valD (ks.zip ds))
  | _ => none
theorem keyD_of {K : PySem.W.Frag} {G : Hp} {d : D} {v : V} {k : Key} (r : Rep K G d v) (h : keyD d = some k) : v = kV k := by
  cases d with
  | int i => cases h; exact r
  | str x => cases h; exact r.1
  | _ => cases h
theorem keysD_of {K : PySem.W.Frag} {G : Hp} : ∀ {ds : List D} {vs : List V} {ks : List Key}, RepL K G ds vs → keysD ds = some ks → vs = ks.map kV
  | [], _, _, h, e => by cases h; cases e; rfl
  | d :: ds, _, ks, ⟨v, r, h1, h2, h3⟩, e => by
    simp only [keysD] at e
    split at e
    · next k ks' e1 e2 =>
      cases e
      rw [h1, keyD_of h2 e1, keysD_of h3 e2]; rfl
    · cases e
theorem valD_rel {κ : Type} [DecidableEq κ] {K : PySem.W.Frag} {G : Hp} : ∀ {kvs : List (κ × D)} {kv : List (κ × V)} (k : κ), kv.map (·.1) = kvs.map (·.1) → RepL K G (kvs.map (·.2)) (kv.map (·.2)) →
    (valD kvs k = none ∧ valV kv k = none) ∨ ∃ d v, valD kvs k = some d ∧ valV kv k = some v ∧ Rep K G d v
  | [], kv, k, h, r => by
    cases kv with
    | nil => exact .inl ⟨rfl, rfl⟩
    | cons _ _ => cases h
  | (a, d) :: kvs, kv, k, h, r => by
    cases kv with
    | nil => cases h
    | cons q kv =>
      obtain ⟨b, v⟩ := q
      simp only [List.map_cons, List.cons.injEq] at h
      obtain ⟨rfl, h⟩ := h
      obtain ⟨v', r', e, h2, h3⟩ := r
      simp only [List.map_cons, List.cons.injEq] at e
      obtain ⟨rfl, rfl⟩ := e
      by_cases z : b = k
      · exact .inr ⟨d, v, by simp [valD, z], by simp [valV, z], h2⟩
      · have := valD_rel k h h3
        simpa [valD, valV, z] using this
theorem zip_fs {α β : Type} : ∀ l : List (α × β), (l.map (·.1)).zip (l.map (·.2)) = l
  | [] => rfl
  | (a, b) :: l => by simp [zip_fs l]
@[simp] theorem zip_fs' {α β : Type} (l : List (α × β)) : (l.map (·.1)).zip (l.map (·.2)) = l := zip_fs l
theorem map_zip1 {α β : Type} : ∀ (l : List α) (m : List β), l.length = m.length → (l.zip m).map (·.1) = l
  | [], [], _ => rfl
  | a :: l, b :: m, h => by simp [map_zip1 l m (by simpa using h)]
theorem map_zip2 {α β : Type} : ∀ (l : List α) (m : List β), l.length = m.length → (l.zip m).map (·.2) = m
  | [], [], _ => rfl
  | a :: l, b :: m, h => by simp [map_zip2 l m (by simpa using h)]
theorem dgetD_of {K : PySem.W.Frag} {G H : Hp} {p : Rho} {M : Mst} {s : L2.St} {x y : D} {v u : V} {r : Option D} (S : Sim K G H p M s) (r1 : Rep K G x v) (r2 : Rep K G y u) (h : dgetD M x y = some r) :
    ∃ a o, v = .ref a ∧ DGet H a u o ∧ ((r = none ∧ o = none) ∨ ∃ d w, r = some d ∧ o = some w ∧ Rep K G d w) := by
  unfold dgetD at h
  split at h
  · next a =>
    cases r1
    split at h
    · next kvs em =>
      obtain ⟨gn, kv, h1, h2, h3, h4⟩ := S.mem _ _ em
      cases ek : keyD y with
      | none => rw [ek] at h; cases h
      | some k =>
        rw [ek] at h
        cases h
        cases keyD_of r2 ek
        exact ⟨a, _, rfl, DGet.k h1, (valD_rel k h2 h3).imp id fun ⟨d, v, a, b, c⟩ => ⟨d, v, a, b, c⟩⟩
    · next ho kvs em =>
      obtain ⟨gn, o, kv, h0, h1, h2, h3, h4⟩ := S.mem _ _ em
      rw [h0] at h1
      cases ek : keyD y with
      | none => rw [ek] at h; cases h
      | some k =>
        rw [ek] at h
        cases h
        cases keyD_of r2 ek
        exact ⟨a, _, rfl, .inl ⟨kv, k, .inr ⟨o, h1⟩, rfl, rfl⟩, (valD_rel k h2 h3).imp id fun ⟨d, v, a, b, c⟩ => ⟨d, v, a, b, c⟩⟩
    · next kvs em =>
      obtain ⟨gn, kv, h1, h2, h3, h4⟩ := S.mem _ _ em
      split at h
      · next ds =>
        obtain ⟨b, vs, rfl, g1, g2, g3⟩ := r2
        cases ek : keysD ds with
        | none => rw [ek] at h; cases h
        | some k =>
          rw [ek] at h
          cases h
          have := keysD_of g2 ek
          exact ⟨a, _, rfl, DGet.t h1 (by rw [S.same _ _ g1, this]), (valD_rel k h2 h3).imp id fun ⟨d, v, a, b, c⟩ => ⟨d, v, a, b, c⟩⟩
      · cases h
    · next ho kvs em =>
      obtain ⟨gn, o, kv, h0, h1, h2, h3, h4⟩ := S.mem _ _ em
      rw [h0] at h1
      split at h
      · next ds =>
        obtain ⟨b, vs, rfl, g1, g2, g3⟩ := r2
        cases ek : keysD ds with
        | none => rw [ek] at h; cases h
        | some k =>
          rw [ek] at h
          cases h
          have := keysD_of g2 ek
          exact ⟨a, _, rfl, .inr ⟨kv, k, b, .inr ⟨o, h1⟩, rfl, by rw [S.same _ _ g1, this], rfl⟩, (valD_rel k h2 h3).imp id fun ⟨d, v, a, b, c⟩ => ⟨d, v, a, b, c⟩⟩
      · cases h
    · cases h
  · next ks ds =>
    obtain ⟨a, kvs, rfl, h1, h2, h3, h4, _⟩ := r1
    cases ek : keyD y with
    | none => rw [ek] at h; cases h
    | some k =>
      rw [ek] at h
      cases h
      cases keyD_of r2 ek
      have hl : ks.length = ds.length := by rw [← h2, ← h3.length]; simp
      refine ⟨a, _, rfl, .inl ⟨kvs, k, same_rd S.same h1, rfl, rfl⟩, (valD_rel k (by rw [map_zip1 _ _ hl]; exact h2) (by rw [map_zip2 _ _ hl]; exact h3)).imp id fun ⟨d, v, a, b, c⟩ => ⟨d, v, a, b, c⟩⟩
  · cases h
def rIxD : R2 := fun x y H Q => ∃ a v, x = .ref a ∧ DGet H a y (some v) ∧ Q v H
theorem ix_dict {X : Cx} (hu : X.A.units + 1 < cLine) : IxR X rIxD := by
  intro value slice pins s σ H x y v u Q I rx ry h hs
  obtain ⟨a, z, rfl, g, q⟩ := h
  cases rx
  exact PyProof.Rows.tail_any (dict_typeIs I g) PySem.F.slot_dict_getitem.lookup (d_getItem hu I g ry fun w' s3 I3 rw' => ⟨z, H, I3, rw', q⟩) hs
def rIxA (K : PySem.W.Frag) : R2 := fun x y H Q => rIx K x y H Q ∨ rIxD x y H Q
def dIx : DOp := fun x y M Q => match dgetD M x y with
  | some (some d) => Q d M
  | some none => False
  | none => match res M x, y with
    | .lst ds, .int i => match atI ds i with | some d => Q d M | none => False
    | .tup ds, .int i => match atI ds i with | some d => Q d M | none => False
    | .str z, .int i => match atI z.cps.toList i with | some c => Q (.str ⟨#[c]⟩) M | none => False
    | .scr ns, .int i => match atI ns i with | some c => Q (.int c) M | none => False
    | _, _ => False
theorem as_scr {K : PySem.W.Frag} {G H : Hp} {p : Rho} {M : Mst} {s : L2.St} {x : D} {v : V} {ns : List Int} (S : Sim K G H p M s) (r : Rep K G x v) (e : res M x = .scr ns) : ∃ a, v = .ref a ∧ SqL K G a (ns.map V.int) := by
  cases x with
  | scr ms => cases e; obtain ⟨a, h1, h2, _⟩ := r; exact ⟨a, h1, h2⟩
  | ref a =>
    simp only [res] at e
    split at e <;> cases e
  | _ => cases e
theorem atI_map {α β : Type} {f : α → β} {xs : List α} {i : Int} {c : α} (h : atI xs i = some c) : atI (xs.map f) i = some (f c) := by
  unfold atI at h ⊢
  rw [List.length_map]
  cases e : ixN xs.length i with
  | none => rw [e] at h; cases h
  | some j =>
    rw [e] at h
    have h' : xs[j]? = some c := h
    show (xs.map f)[j]? = some (f c)
    rw [List.getElem?_map, h']; rfl
theorem atI_rel {K : PySem.W.Frag} {G : Hp} {ds : List D} {vs : List V} {i : Int} {d : D} (r : RepL K G ds vs) (h : atI ds i = some d) : ∃ v, atI vs i = some v ∧ Rep K G d v := by
  unfold atI at h ⊢
  rw [r.length]
  cases e : ixN ds.length i with
  | none => rw [e] at h; cases h
  | some j =>
    rw [e] at h
    exact r.get h
theorem ref_ix {K : PySem.W.Frag} : RefR2 K (rIxA K) dIx := fun G H p M s x y v u Q Q' S r1 r2 h k => by
  unfold dIx at h
  split at h
  · next d e =>
    obtain ⟨a, o, rfl, g, q⟩ := dgetD_of S r1 r2 e
    rcases q with ⟨q, _⟩ | ⟨d', w, q, rfl, r⟩
    · cases q
    · cases q
      exact .inr ⟨a, w, rfl, g, k G H M d w (Same.refl _) S r h⟩
  · exact h.elim
  · split at h
    · next ds i e1 _ =>
      obtain ⟨a, vs, rfl, h1, h2, h3⟩ := as_lst S r1 e1
      cases r2
      split at h
      · next d ea =>
        obtain ⟨w, ew, rw'⟩ := atI_rel h2 ea
        exact .inl (.inl ⟨a, vs, i, w, rfl, rfl, .inl (.inl h1), ew, k G H M d w (Same.refl _) S rw' h⟩)
      · exact h.elim
    · next ds i e1 _ =>
      obtain ⟨a, vs, rfl, h1, h2, h3⟩ := as_tup S r1 e1
      cases r2
      split at h
      · next d ea =>
        obtain ⟨w, ew, rw'⟩ := atI_rel h2 ea
        exact .inl (.inr (.inl ⟨a, vs, i, w, rfl, rfl, h1, ew, k G H M d w (Same.refl _) S rw' h⟩))
      · exact h.elim
    · next z i e1 _ =>
      obtain ⟨rfl, l1, o1⟩ := as_str r1 e1
      cases r2
      split at h
      · next c ea =>
        refine .inl (.inr (.inr ⟨z, i, c, rfl, rfl, l1, ea, k G H M (.str ⟨#[c]⟩) _ (Same.refl _) S ⟨rfl, sz1000 (by show 1 ≤ 100000; decide), ?_⟩ h⟩))
        obtain ⟨j, _, h2, _⟩ := atI_get ea
        have hm : c ∈ z.cps.toList := List.mem_of_getElem? h2
        have ho : ∀ y ∈ z.cps.toList, decide (y < 0x110000) = true := by
          unfold PyData.strOk at o1
          rw [← Array.all_toList] at o1
          exact List.all_eq_true.mp o1
        have := ho c hm
        simpa [PyData.strOk] using this
      · exact h.elim
    · next ns i e1 _ =>
      obtain ⟨a, rfl, h1⟩ := as_scr S r1 e1
      cases r2
      split at h
      · next c ea => exact .inl (.inl ⟨a, _, i, .int c, rfl, rfl, same_l S.same h1, atI_map ea, k G H M (.int c) _ (Same.refl _) S rfl h⟩)
      · exact h.elim
    · exact h.elim
theorem q_ix {X : Cx} {W : WX} {a b : Expr} {ta tb : TE} {qa qb : DTE} {pos : Pos} (hu : X.A.units + 1 < cLine) (ha : QE X W a ta qa) (hb : QE X W b tb qb) (hs : PlainIx b := by exact fun _ _ => rfl) : QE X W (.Subscript a b pos) (tOp (rIxA X.K) ta tb) (qOp dIx qa qb) :=
  ⟨pe_ix (IxR.or ix_seq (ix_dict hu)) ha.pe hb.pe hs, ref_op ref_ix ha.rf hb.rf⟩
end DL
namespace DL
open PySem L2
def flatD : D → Bool
  | .non => true
  | .bl _ => true
  | .int _ => true
  | .str _ => true
  | _ => false
theorem flatD_of {K : PySem.W.Frag} {G : Hp} {d : D} {v : V} (r : Rep K G d v) (h : flatD d = true) : flatV v = true ∧ ∀ e w, Rep K G e w → flatD e = true → eqV w v = deq e d := by
  cases d with
  | non => cases r; exact ⟨rfl, fun e w r h => by
      cases e with
      | non => cases r; rfl
      | bl b => cases r; rfl
      | int b => cases r; rfl
      | str b => obtain ⟨r, _⟩ := r; subst r; rfl
      | _ => cases h⟩
  | bl b => cases r; exact ⟨rfl, fun e w r h => by
      cases e with
      | non => cases r; rfl
      | bl b => cases r; rfl
      | int b => cases r; rfl
      | str b => obtain ⟨r, _⟩ := r; subst r; rfl
      | _ => cases h⟩
  | int b => cases r; exact ⟨rfl, fun e w r h => by
      cases e with
      | non => cases r; rfl
      | bl b => cases r; rfl
      | int b => cases r; rfl
      | str b => obtain ⟨r, _⟩ := r; subst r; rfl
      | _ => cases h⟩
  | str b => obtain ⟨r, _⟩ := r; subst r; exact ⟨rfl, fun e w r h => by
      cases e with
      | non => cases r; rfl
      | bl b => cases r; rfl
      | int b => cases r; rfl
      | str b => obtain ⟨r, _⟩ := r; subst r; rfl
      | _ => cases h⟩
  | _ => cases h
theorem inV_of {K : PySem.W.Frag} {G : Hp} {d : D} {v : V} (r : Rep K G d v) (h : flatD d = true) : ∀ {ds : List D} {vs : List V}, RepL K G ds vs → ds.all flatD = true → vs.all flatV = true ∧ inV v vs = ds.any fun e => deq e d
  | [], _, q, _ => by cases q; exact ⟨rfl, rfl⟩
  | e :: ds, _, ⟨w, vs, e1, h2, h3⟩, f => by
    subst e1
    have f' : flatD e = true ∧ ds.all flatD = true := by simpa using f
    obtain ⟨i1, i2⟩ := inV_of r h h3 f'.2
    obtain ⟨fv, _⟩ := flatD_of h2 f'.1
    have e2 := (flatD_of r h).2 e w h2 f'.1
    refine ⟨by simp [fv, i1], ?_⟩
    have e3 : inV v (w :: vs) = (eqV w v || inV v vs) := rfl
    rw [e3, i2, e2]; rfl
def rInDk (neg : Bool) : R2 := fun y x H Q => ∃ a o, x = .ref a ∧ DGet H a y o ∧ Q (.bl (xor neg o.isSome)) H
theorem op_inDk {X : Cx} (hu : X.A.units + 1 < cLine) : OpR X (compareOp .In) (rInDk false) := by
  intro pins s σ H y x u v Q I ry rx h
  obtain ⟨a, o, rfl, g, q⟩ := h
  cases rx
  exact d_in hu I g ry fun s3 I3 => ⟨.bl o.isSome, H, I3, rfl, by simpa using q⟩
theorem op_ninDk {X : Cx} (hu : X.A.units + 1 < cLine) : OpR X (compareOp .NotIn) (rInDk true) := by
  intro pins s σ H y x u v Q I ry rx h
  obtain ⟨a, o, rfl, g, q⟩ := h
  cases rx
  exact d_notIn hu I g ry fun s3 I3 => ⟨.bl (!o.isSome), H, I3, rfl, by simpa using q⟩
def inS (c z : Str) : Bool := !(Builtin.Str.occurrences z c 0 z.length 1).isEmpty
def rInStr (neg : Bool) : R2 := fun x y H Q => ∃ i j, x = .str i ∧ y = .str j ∧ Q (.bl (xor neg (inS i j))) H
theorem op_inStr {X : Cx} : OpR X (compareOp .In) (rInStr false) := by
  intro pins s σ H y x u v Q I ry rx h
  obtain ⟨i, j, e1, e2, q⟩ := h
  exact op_in_str pins s σ H y x u v Q I ry rx ⟨i, j, e1, e2, by simpa [inS] using q⟩
theorem op_ninStr {X : Cx} : OpR X (compareOp .NotIn) (rInStr true) := by
  intro pins s σ H y x u v Q I ry rx h
  obtain ⟨i, j, e1, e2, q⟩ := h
  exact op_notIn_str pins s σ H y x u v Q I ry rx ⟨i, j, e1, e2, by simpa [inS] using q⟩
def rInX (K : PySem.W.Frag) (neg : Bool) : R2 := fun x y H Q => rIn K neg x y H Q ∨ rInDk neg x y H Q ∨ rInStr neg x y H Q
def dIn (neg : Bool) : DOp := fun x y M Q => match dgetD M y x with
  | some r => Q (.bl (xor neg r.isSome)) M
  | none => match res M y with
    | .lst ds => flatD x = true ∧ ds.all flatD = true ∧ Q (.bl (xor neg (ds.any fun e => deq e x))) M
    | .tup ds => flatD x = true ∧ ds.all flatD = true ∧ Q (.bl (xor neg (ds.any fun e => deq e x))) M
    | .str z => match x with
      | .str c => Q (.bl (xor neg (inS c z))) M
      | _ => False
    | _ => False
theorem ref_in {K : PySem.W.Frag} {neg : Bool} : RefR2 K (rInX K neg) (dIn neg) := fun G H p M s x y v u Q Q' S r1 r2 h k => by
  have nb : ∀ b : Bool, (if neg = true then !b else b) = xor neg b := fun b => by cases neg <;> cases b <;> rfl
  unfold dIn at h
  split at h
  · next r e =>
    obtain ⟨a, o, rfl, g, q⟩ := dgetD_of S r2 r1 e
    refine .inr (.inl ⟨a, o, rfl, g, k G H M (.bl _) _ (Same.refl _) S rfl ?_⟩)
    rcases q with ⟨rfl, rfl⟩ | ⟨d, w, rfl, rfl, _⟩ <;> exact h
  · split at h
    · next ds e1 =>
      obtain ⟨f1, f2, h⟩ := h
      obtain ⟨a, vs, rfl, h1, h2, h3⟩ := as_lst S r2 e1
      obtain ⟨i1, i2⟩ := inV_of r1 f1 h2 f2
      refine .inl ⟨a, vs, rfl, .inl (.inl (.inl h1)), (flatD_of r1 f1).1, i1, k G H M (.bl _) _ (Same.refl _) S rfl ?_⟩
      rw [nb, i2]; exact h
    · next ds e1 =>
      obtain ⟨f1, f2, h⟩ := h
      obtain ⟨a, vs, rfl, h1, h2, h3⟩ := as_tup S r2 e1
      obtain ⟨i1, i2⟩ := inV_of r1 f1 h2 f2
      refine .inl ⟨a, vs, rfl, .inr h1, (flatD_of r1 f1).1, i1, k G H M (.bl _) _ (Same.refl _) S rfl ?_⟩
      rw [nb, i2]; exact h
    · next z e1 =>
      obtain ⟨rfl, l1, o1⟩ := as_str r2 e1
      split at h
      · next c _ =>
        obtain ⟨rfl, _⟩ := r1
        exact .inr (.inr ⟨c, z, rfl, rfl, k G H M (.bl _) _ (Same.refl _) S rfl h⟩)
      · exact h.elim
    · exact h.elim
theorem o_in {X : Cx} (hu : X.A.units + 1 < cLine) : QOp X (compareOp .In) (rInX X.K false) (dIn false) := ⟨OpR.or op_in_seq (OpR.or (op_inDk hu) op_inStr), ref_in⟩
theorem o_notin {X : Cx} (hu : X.A.units + 1 < cLine) : QOp X (compareOp .NotIn) (rInX X.K true) (dIn true) := ⟨OpR.or op_notIn_seq (OpR.or (op_ninDk hu) op_ninStr), ref_in⟩
abbrev DTO := DWt → Rho → Mst → (Option Int → Mst → Prop) → Prop
def RefO (K : PySem.W.Frag) (W : WX) (t : TO) (q : DTO) : Prop := ∀ DW G H p M s (Q : Option Int → Mst → Prop) (Q' : Option Int → Hp → Prop), WLink K G DW W → Sim K G H p M s → q DW p M Q →
  (∀ G' H' M' b, Same G G' → Sim K G' H' p M' s → Q b M' → Q' b H') → t s H Q'
structure QO (X : Cx) (W : WX) (e : Option Expr) (t : TO) (q : DTO) : Prop where
  pe : PO X e t
  rf : RefO X.K W t q
@[simp] def qNoPart : DTO := fun _ _ M Q => Q none M
@[simp] def qPart (q : DTE) : DTO := fun DW p M Q => q DW p M fun d M1 => match d with | .int i => Q (some i) M1 | _ => False
def cutX {α : Type} (xs : List α) (lo hi : Option Int) : List α := (xs.drop (HT.sIx xs.length 0 lo)).take (HT.sIx xs.length xs.length hi - HT.sIx xs.length 0 lo)
def dSl (m : Bool) (x : D) (lo hi : Option Int) (M : Mst) (Q : DK) : Prop := match x with
  | .tup ds => Q (.tup (cutX ds lo hi)) M
  | .xtp ds => Q (.tup (cutX ds lo hi)) M ∧ Q (.xtp (cutX ds lo hi)) M
  | .ktp ds => Q (.tup (cutX ds lo hi)) M ∧ Q (.ktp (cutX ds lo hi)) M
  | _ => match res M x with
    | .lst ds => newL m (cutX ds lo hi) M Q
    | .str z => Q (.str (cutS z lo hi)) M
    | _ => False
def qSl (m : Bool) (qe : DTE) (ql qh : DTO) : DTE := fun DW p M Q => qe DW p M fun x M1 => ql DW p M1 fun l M2 => qh DW p M2 fun u M3 => dSl m x l u M3 Q
theorem strOk_cut {z : Str} {lo hi : Option Int} (h : PyData.strOk z = true) : PyData.strOk (cutS z lo hi) = true := by
  have ho : ∀ y ∈ z.cps.toList, decide (y < 0x110000) = true := by
    unfold PyData.strOk at h
    rw [← Array.all_toList] at h
    exact List.all_eq_true.mp h
  unfold PyData.strOk cutS
  rw [← Array.all_toList]
  refine List.all_eq_true.mpr fun y hy => ho y ?_
  exact List.mem_of_mem_drop (List.mem_of_mem_take (by simpa using hy))
section
variable {X : Cx} {W : WX} {e : Expr} {te : TE} {qe : DTE} {lo hi : Option Expr} {tl th : TO} {ql qh : DTO} {pos p2 : Pos}
theorem qo_none : QO X W none tNoPart qNoPart := ⟨po_none, fun DW G H p M s Q Q' hw S q k => k G H M none (Same.refl _) S q⟩
theorem qo_some (h : QE X W e te qe) : QO X W (some e) (tPart te) (qPart qe) := ⟨po_some h.pe, fun DW G H p M s Q Q' hw S q k => h.rf DW G H p M s _ _ hw S q fun G1 H1 M1 d v e1 S1 r1 h1 => by
  cases d with
  | int i => cases r1; exact ⟨i, rfl, k G1 H1 M1 _ e1 S1 h1⟩
  | _ => exact h1.elim⟩
def rSlX (K : PySem.W.Frag) : V → Option Int → Option Int → Hp → VK → Prop := fun x lo hi H Q => rSlL K x lo hi H Q ∨ rSlA K x lo hi H Q ∨ rSlS x lo hi H Q
theorem q_slice (m : Bool) (he : QE X W e te qe) (hl : QO X W lo tl ql) (hu : QO X W hi th qh) : QE X W (.Subscript e (.Slice lo hi none p2) pos) (tSl (rSlX X.K) te tl th) (qSl m qe ql qh) :=
  ⟨pe_slice (SlR.or sl_list (SlR.or sl_tupA sl_str)) he.pe hl.pe hu.pe, fun DW G H p M s Q Q' hw S h k => he.rf DW G H p M s _ _ hw S h fun G1 H1 M1 d v e1 S1 r1 h1 =>
    hl.rf DW G1 H1 p M1 s _ _ (hw.mono e1) S1 h1 fun G2 H2 M2 l e2 S2 h2 => hu.rf DW G2 H2 p M2 s _ _ (hw.mono (e1.trans e2)) S2 h2 fun G3 H3 M3 u e3 S3 h3 => by
      have r3 := Rep.mono (e2.trans e3) _ _ r1
      have k3 : ∀ G' H' M' d w, Same G3 G' → Sim X.K G' H' p M' s → Rep X.K G' d w → Q d M' → Q' w H' := fun G' H' M' d w e4 => k G' H' M' d w (((e1.trans e2).trans e3).trans e4)
      unfold dSl at h3
      split at h3
      · next ds =>
        obtain ⟨a, vs, rfl, g1, g2, g3⟩ := r3
        have g1' := S3.same _ _ g1
        have c1 : RepL X.K G3 (cutX ds l u) (cutV vs l u) := by
          unfold cutX cutV
          rw [g2.length]
          exact RepL.take _ (RepL.drop _ g2)
        have c2 := Nat.le_trans (cutV_length vs l u) g3
        refine .inr (.inl ⟨a, vs, rfl, .inl (.inl g1'), fun hwh => ?_, fun hnw q hq => newT_ok S3 hq c1 c2 h3 k3⟩)
        refine k3 G3 H3 M3 (.tup (cutX ds l u)) _ (Same.refl _) S3 ⟨a, vs, rfl, g1, ?_, g3⟩ h3
        have e5 : cutV vs l u = vs := by
          unfold cutV
          rw [hwh.1, hwh.2]
          simp
        rw [e5] at c1; exact c1
      · next ds =>
        obtain ⟨a, o, vs, rfl, g1, g0, g2, g3⟩ := r3
        have g1' := S3.same _ _ g1
        have c1 : RepL X.K G3 (cutX ds l u) (cutV vs l u) := by
          unfold cutX cutV
          rw [g2.length]
          exact RepL.take _ (RepL.drop _ g2)
        have c2 := Nat.le_trans (cutV_length vs l u) g3
        refine .inr (.inl ⟨a, vs, rfl, .inl (.inr ⟨o, g1'⟩), fun hwh => ?_, fun hnw q hq => newT_ok S3 hq c1 c2 h3.1 k3⟩)
        refine k3 G3 H3 M3 (.xtp (cutX ds l u)) _ (Same.refl _) S3 ⟨a, o, vs, rfl, g1, g0, ?_, g3⟩ h3.2
        have e5 : cutV vs l u = vs := by
          unfold cutV
          rw [hwh.1, hwh.2]
          simp
        rw [e5] at c1; exact c1
      · next ds =>
        obtain ⟨a, vs, rfl, g1, g2, g3⟩ := r3
        have c1 : RepL X.K G3 (cutX ds l u) (cutV vs l u) := by
          unfold cutX cutV
          rw [g2.length]
          exact RepL.take _ (RepL.drop _ g2)
        have c2 := Nat.le_trans (cutV_length vs l u) g3
        refine .inr (.inl ⟨a, vs, rfl, same_t S3.same g1, fun hwh => ?_, fun hnw q hq => newT_ok S3 hq c1 c2 h3.1 k3⟩)
        refine k3 G3 H3 M3 (.ktp (cutX ds l u)) _ (Same.refl _) S3 ⟨a, vs, rfl, g1, ?_, g3⟩ h3.2
        have e5 : cutV vs l u = vs := by
          unfold cutV
          rw [hwh.1, hwh.2]
          simp
        rw [e5] at c1; exact c1
      · split at h3
        · next ds e4 =>
          obtain ⟨a, vs, rfl, g1, g2, g3⟩ := as_lst S3 r3 e4
          have c1 : RepL X.K G3 (cutX ds l u) (cutV vs l u) := by
            unfold cutX cutV
            rw [g2.length]
            exact RepL.take _ (RepL.drop _ g2)
          exact .inl ⟨a, vs, rfl, .inl (.inl g1), fun q hq => newL_ok S3 hq c1 (Nat.le_trans (cutV_length vs l u) g3) h3 k3⟩
        · next z e4 =>
          obtain ⟨rfl, l1, o1⟩ := as_str r3 e4
          exact .inr (.inr ⟨z, rfl, l1, k3 G3 H3 M3 (.str _) _ (Same.refl _) S3 ⟨rfl, Nat.le_trans (cutS_length z l u) l1, strOk_cut o1⟩ h3⟩)
        · exact h3.elim⟩
/-- xs[::-1] -/
def dRev (m : Bool) : DUn := fun x M Q => match res M x with
  | .lst ds => newL m ds.reverse M Q
  | _ => False
theorem q_rev (m : Bool) {k : Nat} {p1 p2 p3 pos : Pos} (he : QE X W e te qe) : QE X W (.Subscript e (.Slice none none (some (.UnaryOp .USub (.Constant (.int 1) k p1) p2)) p3) pos) (tRevL X.K te) (qUn (dRev m) qe) :=
  ⟨pe_revL he.pe, fun DW G H p M s Q Q' hw S h k => he.rf DW G H p M s _ _ hw S h fun G1 H1 M1 d v e1 S1 r1 h1 => by
    unfold dRev at h1
    split at h1
    · next ds e4 =>
      obtain ⟨a, vs, rfl, g1, g2, g3⟩ := as_lst S1 r1 e4
      exact ⟨a, vs, rfl, .inl (.inl g1), fun q hq => newL_ok S1 hq (RepL.reverse g2) (by rw [List.length_reverse]; exact g3) h1 fun G' H' M' d w e4 => k G' H' M' d w (e1.trans e4)⟩
    · exact h1.elim⟩
end
def dLen : DCa := fun ds M Q => match ds with
  | [x] => match res M x with
    | .lst es => Q (.int es.length) M
    | .tup es => Q (.int es.length) M
    | .str z => Q (.int z.length) M
    | .scr ns => Q (.int ns.length) M
    | .dct ks es => Q (.int es.length) M
    | _ => False
  | _ => False
theorem call_lenDR {X : Cx} : CallR X (.builtin "len") (fun xs H Q => ∃ a kvs, xs = [V.ref a] ∧ Rd H a (.dK kvs) ∧ Q (.int kvs.length) H) := by
  intro pins s σ H xs us Q I r h
  obtain ⟨a, kvs, rfl, ha, q⟩ := h
  obtain ⟨u, rfl, ru⟩ := vals1 r
  cases ru
  exact d_len I ha fun t s' I' => ⟨.int kvs.length, H, I', ⟨_, rfl⟩, q⟩
def rLenX (K : PySem.W.Frag) : List V → Hp → VK → Prop := fun xs H Q => (∃ x n, xs = [x] ∧ LenV K x H n ∧ Q (.int n) H) ∨ ∃ a kvs, xs = [V.ref a] ∧ Rd H a (.dK kvs) ∧ Q (.int kvs.length) H
theorem repL1 {K : PySem.W.Frag} {G : Hp} {x : D} {vs : List V} (r : RepL K G [x] vs) : ∃ v, vs = [v] ∧ Rep K G x v := by
  obtain ⟨v, r', e, h1, h2⟩ := r
  cases h2
  exact ⟨v, e, h1⟩
theorem repL2 {K : PySem.W.Frag} {G : Hp} {x y : D} {vs : List V} (r : RepL K G [x, y] vs) : ∃ v u, vs = [v, u] ∧ Rep K G x v ∧ Rep K G y u := by
  obtain ⟨v, r', e, h1, h2⟩ := r
  obtain ⟨u, e2, h3⟩ := repL1 h2
  subst e2
  exact ⟨v, u, e, h1, h3⟩
theorem c_len {X : Cx} : QCa X (.builtin "len") (rLenX X.K) dLen := ⟨CallR.or call_len call_lenDR, fun G H p M s ds vs Q Q' S r h k => by
  unfold dLen at h
  split at h
  · next x =>
    obtain ⟨v, rfl, r1⟩ := repL1 r
    have fin : ∀ (n : Nat), Q (.int n) M → Q' (.int n) H := fun n q => k G H M (.int n) _ (Same.refl _) S rfl q
    split at h
    · next es e1 =>
      obtain ⟨a, us, rfl, g1, g2, g3⟩ := as_lst S r1 e1
      exact .inl ⟨_, es.length, rfl, .inl ⟨us, .inl (.inl g1), g2.length.symm⟩, fin _ h⟩
    · next es e1 =>
      obtain ⟨a, us, rfl, g1, g2, g3⟩ := as_tup S r1 e1
      exact .inl ⟨_, es.length, rfl, .inr ⟨us, g1, g2.length.symm⟩, fin _ h⟩
    · next z e1 =>
      obtain ⟨rfl, l1, o1⟩ := as_str r1 e1
      exact .inl ⟨_, z.length, rfl, ⟨l1, rfl⟩, fin _ h⟩
    · next ns e1 =>
      cases x with
      | scr ms =>
        cases e1
        obtain ⟨a, rfl, g1, g2⟩ := r1
        exact .inl ⟨_, ns.length, rfl, .inl ⟨_, same_l S.same g1, by simp⟩, fin _ h⟩
      | ref a =>
        simp only [res] at e1
        split at e1 <;> cases e1
      | _ => cases e1
    · next ks es e1 =>
      obtain ⟨a, us, rfl, g1, g2, g3, g4, _⟩ := as_dct S r1 e1
      refine .inr ⟨a, us, rfl, g1, ?_⟩
      have e2 : us.length = es.length := by have := g3.length; simpa using this
      rw [e2]
      exact fin _ h
    · exact h.elim
  · exact h.elim⟩
def dAbs : DCa := fun ds M Q => match ds with
  | [.int i] => Q (.int (if i < 0 then -i else i)) M
  | _ => False
theorem c_abs {X : Cx} : QCa X (.builtin "abs") (fun xs H Q => ∃ i, xs = [.int i] ∧ Q (.int (if i < 0 then -i else i)) H) dAbs := ⟨call_abs, fun G H p M s ds vs Q Q' S r h k => by
  unfold dAbs at h
  split at h
  · next i =>
    obtain ⟨v, rfl, r1⟩ := repL1 r
    cases r1
    exact ⟨i, rfl, k G H M (.int _) _ (Same.refl _) S rfl h⟩
  · exact h.elim⟩
def dMax2 : DCa := fun ds M Q => match ds with
  | [.int i, .int j] => Q (.int (if j > i then j else i)) M
  | _ => False
def dMin2 : DCa := fun ds M Q => match ds with
  | [.int i, .int j] => Q (.int (if j < i then j else i)) M
  | _ => False
theorem c_max2 {X : Cx} (hc : X.calm = true) : QCa X (.builtin "max") (fun xs H Q => ∃ i j, xs = [.int i, .int j] ∧ Q (.int (if j > i then j else i)) H) dMax2 := ⟨call_max2 hc, fun G H p M s ds vs Q Q' S r h k => by
  unfold dMax2 at h
  split at h
  · next i j =>
    obtain ⟨v, u, rfl, r1, r2⟩ := repL2 r
    cases r1
    cases r2
    exact ⟨i, j, rfl, k G H M (.int _) _ (Same.refl _) S rfl h⟩
  · exact h.elim⟩
theorem c_min2 {X : Cx} (hc : X.calm = true) : QCa X (.builtin "min") (fun xs H Q => ∃ i j, xs = [.int i, .int j] ∧ Q (.int (if j < i then j else i)) H) dMin2 := ⟨call_min2 hc, fun G H p M s ds vs Q Q' S r h k => by
  unfold dMin2 at h
  split at h
  · next i j =>
    obtain ⟨v, u, rfl, r1, r2⟩ := repL2 r
    cases r1
    cases r2
    exact ⟨i, j, rfl, k G H M (.int _) _ (Same.refl _) S rfl h⟩
  · exact h.elim⟩
def dList (m : Bool) : DCa := fun ds M Q => match ds with
  | [x] => match res M x with
    | .lst es => newL m es M Q
    | .tup es => newL m es M Q
    | _ => False
  | _ => False
theorem c_list {X : Cx} (m : Bool) : QCa X (.type "list") (fun xs H Q => ∃ p ys, xs = [.ref p] ∧ (SqL X.K H p ys ∨ SqT X.K H p ys) ∧ ∀ l, H l = none → Q (.ref l) (upd H l (.lst ys))) (dList m) := ⟨call_list_of, fun G H p M s ds vs Q Q' S r h k => by
  unfold dList at h
  split at h
  · next x =>
    obtain ⟨v, rfl, r1⟩ := repL1 r
    split at h
    · next es e1 =>
      obtain ⟨a, us, rfl, g1, g2, g3⟩ := as_lst S r1 e1
      exact ⟨a, us, rfl, .inl (.inl (.inl g1)), fun q hq => newL_ok S hq g2 g3 h k⟩
    · next es e1 =>
      obtain ⟨a, us, rfl, g1, g2, g3⟩ := as_tup S r1 e1
      exact ⟨a, us, rfl, .inr g1, fun q hq => newL_ok S hq g2 g3 h k⟩
    · exact h.elim
  · exact h.elim⟩
def dTuple : DCa := fun ds M Q => match ds with
  | [.tup es] => Q (.tup es) M
  | [x] => match res M x with
    | .lst es => Q (.tup es) M
    | _ => False
  | _ => False
theorem c_tuple {X : Cx} : QCa X (.type "tuple") (fun xs H Q => ∃ p ys, xs = [.ref p] ∧ ((SqL X.K H p ys ∧ ∀ l, H l = none → Q (.ref l) (upd H l (.tup ys))) ∨ (SqT X.K H p ys ∧ Q (.ref p) H))) dTuple := ⟨call_tuple_of, fun G H p M s ds vs Q Q' S r h k => by
  unfold dTuple at h
  split at h
  · next es =>
    obtain ⟨v, rfl, r1⟩ := repL1 r
    obtain ⟨a, us, rfl, g1, g2, g3⟩ := r1
    exact ⟨a, us, rfl, .inr ⟨.inl (.inl (S.same _ _ g1)), k G H M (.tup es) _ (Same.refl _) S ⟨a, us, rfl, g1, g2, g3⟩ h⟩⟩
  · next x _ =>
    obtain ⟨v, rfl, r1⟩ := repL1 r
    split at h
    · next es e1 =>
      obtain ⟨a, us, rfl, g1, g2, g3⟩ := as_lst S r1 e1
      exact ⟨a, us, rfl, .inl ⟨.inl (.inl g1), fun q hq => newT_ok S hq g2 g3 h k⟩⟩
    · exact h.elim
  · exact h.elim⟩
def blsD : List D → Option (List Bool)
  | [] => some []
  | .bl b :: ds => (blsD ds).map (b :: ·)
  | _ => none
def intsD : List D → Option (List Int)
  | [] => some []
  | .int b :: ds => (intsD ds).map (b :: ·)
  | _ => none
theorem blsD_of {K : PySem.W.Frag} {G : Hp} : ∀ {ds : List D} {vs : List V} {bs : List Bool}, RepL K G ds vs → blsD ds = some bs → vs = bs.map V.bl
  | [], _, _, h, e => by cases h; cases e; rfl
  | d :: ds, _, bs, ⟨v, r, h1, h2, h3⟩, e => by
    cases d with
    | bl b =>
      simp only [blsD] at e
      cases eb : blsD ds with
      | none => rw [eb] at e; cases e
      | some cs =>
        rw [eb] at e; cases e
        cases h2
        rw [h1, blsD_of h3 eb]; rfl
    | _ => simp [blsD] at e
theorem intsD_of {K : PySem.W.Frag} {G : Hp} : ∀ {ds : List D} {vs : List V} {bs : List Int}, RepL K G ds vs → intsD ds = some bs → vs = bs.map V.int
  | [], _, _, h, e => by cases h; cases e; rfl
  | d :: ds, _, bs, ⟨v, r, h1, h2, h3⟩, e => by
    cases d with
    | int b =>
      simp only [intsD] at e
      cases eb : intsD ds with
      | none => rw [eb] at e; cases e
      | some cs =>
        rw [eb] at e; cases e
        cases h2
        rw [h1, intsD_of h3 eb]; rfl
    | _ => simp [intsD] at e
@[simp] theorem blsD_map {α : Type} (f : α → Bool) : ∀ l : List α, blsD (l.map fun x => .bl (f x)) = some (l.map f)
  | [] => rfl
  | x :: l => by simp [blsD, blsD_map f l]
@[simp] theorem intsD_map {α : Type} (f : α → Int) : ∀ l : List α, intsD (l.map fun x => .int (f x)) = some (l.map f)
  | [] => rfl
  | x :: l => by simp [intsD, intsD_map f l]
def dAll : DCa := fun ds M Q => match ds with
  | [x] => match res M x with
    | .lst es => match blsD es with | some bs => Q (.bl (bs.all id)) M | none => False
    | _ => False
  | _ => False
def dAny : DCa := fun ds M Q => match ds with
  | [x] => match res M x with
    | .lst es => match blsD es with | some bs => Q (.bl (bs.any id)) M | none => False
    | _ => False
  | _ => False
theorem c_all {X : Cx} (hc : X.calm = true) : QCa X (.builtin "all") (rAll X.K) dAll := ⟨cr_all hc, fun G H p M s ds vs Q Q' S r h k => by
  unfold dAll at h
  split at h
  · next x =>
    obtain ⟨v, rfl, r1⟩ := repL1 r
    split at h
    · next es e1 =>
      obtain ⟨a, us, rfl, g1, g2, g3⟩ := as_lst S r1 e1
      split at h
      · next bs eb =>
        refine ⟨a, bs, rfl, .inl (.inl ?_), k G H M (.bl _) _ (Same.refl _) S rfl h⟩
        rw [← blsD_of g2 eb]; exact g1
      · exact h.elim
    · exact h.elim
  · exact h.elim⟩
theorem c_any {X : Cx} (hc : X.calm = true) : QCa X (.builtin "any") (rAny X.K) dAny := ⟨cr_any hc, fun G H p M s ds vs Q Q' S r h k => by
  unfold dAny at h
  split at h
  · next x =>
    obtain ⟨v, rfl, r1⟩ := repL1 r
    split at h
    · next es e1 =>
      obtain ⟨a, us, rfl, g1, g2, g3⟩ := as_lst S r1 e1
      split at h
      · next bs eb =>
        refine ⟨a, bs, rfl, .inl (.inl ?_), k G H M (.bl _) _ (Same.refl _) S rfl h⟩
        rw [← blsD_of g2 eb]; exact g1
      · exact h.elim
    · exact h.elim
  · exact h.elim⟩
def tyD : D → String
  | .non => "NoneType"
  | .bl _ => "bool"
  | .int _ => "int"
  | .str _ => "str"
  | .tup _ => "tuple"
  | .ktp _ => "tuple"
  | .xtp _ => "tuple"
  | .lst _ => "list"
  | .dct _ _ => "dict"
  | .scr _ => "list"
  | _ => ""
def hasTy : D → Bool
  | .ins _ _ _ => false
  | .exc _ _ _ _ => false
  | .fnv _ _ _ _ _ => false
  | .fno _ _ _ _ => false
  | .ref _ => false
  | .ty _ => false
  | .scr _ => false
  | _ => true
/-- is a thing of the type t one of T -/
def isiB (t T : String) : Option Bool := kitB t T
def isiL (t : String) : List D → Option Bool
  | [] => some false
  | .ty T :: ds => match isiB t T, isiL t ds with
    | some a, some b => some (a || b)
    | _, _ => none
  | _ => none
def dIsi : DCa := fun ds M Q => match ds with
  | [x, .ty T] => hasTy (res M x) = true ∧ match isiB (tyD (res M x)) T with | some b => Q (.bl b) M | none => False
  | [x, .tup Ts] => hasTy (res M x) = true ∧ match isiL (tyD (res M x)) Ts with | some b => Q (.bl b) M | none => False
  | _ => False
theorem tyX_of {K : PySem.W.Frag} {G H : Hp} {p : Rho} {M : Mst} {s : L2.St} {x : D} {v : V} (S : Sim K G H p M s) (r : Rep K G x v) (h : hasTy (res M x) = true) : TyX K H v (.type (tyD (res M x))) := by
  cases e : res M x with
  | non =>
    have : x = .non := by
      cases x with
      | ref a => simp only [res] at e; split at e <;> cases e
      | _ => cases e <;> rfl
    subst this; cases r; exact .base .non
  | bl b =>
    have : x = .bl b := by
      cases x with
      | ref a => simp only [res] at e; split at e <;> cases e
      | _ => cases e <;> rfl
    subst this; cases r; exact .base (.bl _)
  | int b => cases as_int r e; exact .base (.int _)
  | str b => obtain ⟨rfl, _⟩ := as_str r e; exact .base (.str _)
  | ty b => rw [e] at h; cases h
  | ref b => rw [e] at h; cases h
  | scr b => rw [e] at h; cases h
  | ins a b c => rw [e] at h; cases h
  | exc a b c z => rw [e] at h; cases h
  | fnv a b c _ _ => rw [e] at h; cases h
  | fno a b c z => rw [e] at h; cases h
  | ktp b =>
    cases x with
    | ref a => simp only [res] at e; split at e <;> cases e
    | _ => cases e
  | xtp b =>
    cases x with
    | ref a => simp only [res] at e; split at e <;> cases e
    | _ => cases e
  | tup ds =>
    cases x with
    | ref a => simp only [res] at e; split at e <;> cases e
    | tup es =>
      cases e
      obtain ⟨a, us, rfl, g1, g2, g3⟩ := r
      exact .base (.tup (S.same _ _ g1))
    | ktp es =>
      cases e
      obtain ⟨a, us, rfl, g1, g2, g3⟩ := r
      rcases g1 with (g1 | ⟨o, g1⟩) | ⟨o, its, n, hk, hc, _⟩
      · exact .base (.tup (S.same _ _ g1))
      · exact .fTuple (S.same _ _ g1)
      · exact .kTuple hk hc
    | xtp es =>
      cases e
      obtain ⟨a, o, us, rfl, g1, g2, g3⟩ := r
      exact .fTuple (S.same _ _ g1)
    | _ => cases e
  | lst ds =>
    obtain ⟨a, us, rfl, g1, g2, g3⟩ := as_lst S r e
    exact .base (.lst g1)
  | dct ks ds =>
    obtain ⟨a, us, rfl, g1, g2, g3, g4, _⟩ := as_dct S r e
    rcases g1 with g1 | ⟨o, g1⟩
    · exact .base (.dK g1)
    · exact .fDict g1
theorem isiL_of {K : PySem.W.Frag} {G : Hp} {t : String} : ∀ {ds : List D} {vs : List V} {b : Bool}, RepL K G ds vs → isiL t ds = some b → ∃ us, Paired ClsV vs us ∧ PySem.W.kitAny K (.type t) us = some b
  | [], _, b, h, e => by cases h; cases e; exact ⟨[], .nil, kitAny_nil⟩
  | d :: ds, _, b, ⟨v, r, h1, h2, h3⟩, e => by
    cases d with
    | ty T =>
      simp only [isiL] at e
      split at e
      · next a c e1 e2 =>
        cases e
        cases h2
        subst h1
        obtain ⟨us, q1, q2⟩ := isiL_of h3 e2
        refine ⟨.type T :: us, .cons (.ty T) q1, kitAny_cons (kit_ty e1) (fun ha => ?_) fun ha => ?_⟩
        · rw [q2, ha]; rfl
        · rw [ha]; rfl
      · cases e
    | _ => simp [isiL] at e
def rIsiX (K : PySem.W.Frag) : List V → Hp → VK → Prop := fun xs H Q => rIsi K xs H Q ∨ rIsiT K xs H Q
theorem c_isi {X : Cx} : QCa X (.builtin "isinstance") (rIsiX X.K) dIsi := ⟨CallR.or call_isi call_isiT, fun G H p M s ds vs Q Q' S r h k => by
  unfold dIsi at h
  split at h
  · next x T =>
    obtain ⟨v, u, rfl, r1, r2⟩ := repL2 r
    cases r2
    obtain ⟨ht, h⟩ := h
    split at h
    · next b e => exact .inl ⟨_, _, _, _, b, rfl, .ty T, tyX_of S r1 ht, kit_ty e, k G H M (.bl b) _ (Same.refl _) S rfl h⟩
    · exact h.elim
  · next x Ts =>
    obtain ⟨v, u, rfl, r1, r2⟩ := repL2 r
    obtain ⟨a, us, rfl, g1, g2, g3⟩ := r2
    obtain ⟨ht, h⟩ := h
    split at h
    · next b e =>
      obtain ⟨ws, q1, q2⟩ := isiL_of g2 e
      exact .inr ⟨_, a, us, _, ws, b, rfl, S.same _ _ g1, q1, tyX_of S r1 ht, q2, k G H M (.bl b) _ (Same.refl _) S rfl h⟩
    · exact h.elim
  · exact h.elim⟩
end DL
namespace DL
open PySem L2
@[simp] def qNext : DTS := fun _ DE p M => DE.nx p M
@[simp] def qSeq (q1 q2 : DTS) : DTS := fun DW DE p M => q1 DW { DE with nx := q2 DW DE } p M
@[simp] def qDrop (q : DTE) : DTS := fun DW DE p M => q DW p M fun _ M1 => DE.nx p M1
@[simp] def qRet (q : DTE) : DTS := fun DW DE p M => q DW p M fun d M1 => DE.rt d M1
@[simp] def qRetN : DTS := fun _ DE p M => DE.rt .non M
@[simp] def qIfS (c : DTT) (a b : DTS) : DTS := fun DW DE p M => c DW p M fun k M1 => if k = true then a DW DE p M1 else b DW DE p M1
@[simp] def qBreak : DTS := fun _ DE p M => DE.bk p M
@[simp] def qCont : DTS := fun _ DE p M => DE.ct p M
section
variable {X : Cx} {W : WX} {st : Stmt} {rest : List Stmt} {t u : TS} {q r : DTS} {e : Expr} {te : TE} {qe : DTE} {pos : Pos}
theorem qss_nil : QSs X W [] tNext qNext := ⟨pss_nil, fun DW G H p M s DE E hw S h k => k.nx G H p M s (Same.refl _) S h⟩
theorem qss_cons (h1 : QS X W st t q) (h2 : QSs X W rest u r) : QSs X W (st :: rest) (tSeq t u) (qSeq q r) :=
  ⟨pss_cons h1.pe h2.pe, fun DW G H p M s DE E hw S h k => h1.rf DW G H p M s _ _ hw S h
    ⟨fun G' H' p' M' s' e1 S' h' => h2.rf DW G' H' p' M' s' DE E (hw.mono e1) S' h' (k.mono e1), k.rt, k.bk, k.ct⟩⟩
theorem qss_one (h1 : QS X W st t q) : QSs X W [st] t q := ⟨pss_one h1.pe, h1.rf⟩
theorem qs_expr (he : QE X W e te qe) (hs : swapsWith e none pos.line X.env = pure false := by rfl) : QS X W (.Expr e pos) (tDrop te) (qDrop qe) :=
  ⟨ps_expr he.pe hs, fun DW G H p M s DE E hw S h k => he.rf DW G H p M s _ _ hw S h fun G1 H1 M1 d v e1 S1 r1 h1 => k.nx G1 H1 p M1 s e1 S1 h1⟩
theorem qs_ret (he : QE X W e te qe) : QS X W (.Return (some e) pos) (tRet te) (qRet qe) :=
  ⟨ps_ret he.pe, fun DW G H p M s DE E hw S h k => he.rf DW G H p M s _ _ hw S h fun G1 H1 M1 d v e1 S1 r1 h1 => k.rt G1 H1 p M1 s d v e1 S1 r1 h1⟩
theorem qs_if {c : Expr} {a b : List Stmt} {tc : TT} {qc : DTT} (hc : QT X W c tc qc) (ha : QSs X W a t q) (hb : QSs X W b u r) : QS X W (.If c a b pos) (tIfS tc t u) (qIfS qc q r) :=
  ⟨ps_if hc.pe ha.pe hb.pe, fun DW G H p M s DE E hw S h k => hc.rf DW G H p M s _ _ hw S h fun G1 H1 M1 c e1 S1 h1 => by
    cases c with
    | true =>
      rw [if_pos rfl] at h1 ⊢
      exact ha.rf DW G1 H1 p M1 s DE E (hw.mono e1) S1 h1 (k.mono e1)
    | false =>
      rw [if_neg Bool.false_ne_true] at h1 ⊢
      exact hb.rf DW G1 H1 p M1 s DE E (hw.mono e1) S1 h1 (k.mono e1)⟩
end
def Only (ix : List Nat) (s s' : L2.St) : Prop := s'.length = s.length ∧ ∀ j, j ∉ ix → s'[j]? = s[j]?
theorem Only.refl (ix : List Nat) (s : L2.St) : Only ix s s := ⟨rfl, fun _ _ => rfl⟩
theorem Only.trans {ix : List Nat} {s s1 s2 : L2.St} (a : Only ix s s1) (b : Only ix s1 s2) : Only ix s s2 := ⟨b.1.trans a.1, fun j h => (b.2 j h).trans (a.2 j h)⟩
theorem Only.mono {ix iy : List Nat} {s s1 : L2.St} (a : Only ix s s1) (h : ∀ j ∈ ix, j ∈ iy) : Only iy s s1 := ⟨a.1, fun j hj => a.2 j fun z => hj (h j z)⟩
theorem Only.set {ix : List Nat} {s : L2.St} {i : Nat} {v : Option V} (h : i ∈ ix) : Only ix s (s.set i v) := ⟨by simp, fun j hj => List.getElem?_set_ne (fun z => hj (by rw [← z]; exact h))⟩
theorem wipe_get {s : L2.St} {j : Nat} : ∀ {vs : List Nat}, j ∉ vs → (wipe s vs)[j]? = s[j]?
  | [], _ => rfl
  | v :: vs, h => by
    simp only [List.mem_cons, not_or] at h
    unfold wipe
    rw [List.getElem?_set_ne (Ne.symm h.1)]
    exact wipe_get h.2
theorem wipe_in {s : L2.St} {j : Nat} : ∀ {vs : List Nat}, j ∈ vs → j < s.length → (wipe s vs)[j]? = some none
  | [], h, _ => by cases h
  | v :: vs, h, hl => by
    unfold wipe
    by_cases e : v = j
    · subst e
      rw [List.getElem?_set_self (by rw [wipe_length]; exact hl)]
    · rw [List.getElem?_set_ne e]
      exact wipe_in (by rcases List.mem_cons.mp h with q | q; exact absurd q.symm e; exact q) hl
theorem Only.wipe {ix : List Nat} {s s' : L2.St} (h : Only ix s s') : L2.wipe s' ix = L2.wipe s ix := by
  apply List.ext_getElem?
  intro j
  by_cases hj : j ∈ ix
  · by_cases hl : j < s.length
    · rw [wipe_in hj hl, wipe_in hj (by rw [h.1]; exact hl)]
    · rw [List.getElem?_eq_none (by rw [wipe_length, h.1]; omega), List.getElem?_eq_none (by rw [wipe_length]; omega)]
  · rw [wipe_get hj, wipe_get hj]; exact h.2 j hj
def RefGi (K : PySem.W.Frag) (W : WX) (ix : List Nat) (t : TG) (q : DTG) : Prop := ∀ DW G H p M s d v (Q : Rho → Mst → Prop) (Q' : L2.St → Hp → Prop), WLink K G DW W → Sim K G H p M s → Rep K G d v → q d DW p M Q →
  (∀ G' H' p' M' s', Same G G' → Sim K G' H' p' M' s' → Only ix s s' → Q p' M' → Q' s' H') → t v s H Q'
def RefGis (K : PySem.W.Frag) (W : WX) (ix : List Nat) (t : TGs) (q : DTGs) : Prop := ∀ DW G H p M s ds vs (Q : Rho → Mst → Prop) (Q' : L2.St → Hp → Prop), WLink K G DW W → Sim K G H p M s → RepL K G ds vs → q ds DW p M Q →
  (∀ G' H' p' M' s', Same G G' → Sim K G' H' p' M' s' → Only ix s s' → Q p' M' → Q' s' H') → t vs s H Q'
structure QGi (X : Cx) (W : WX) (ix : List Nat) (tg : Expr) (t : TG) (q : DTG) : Prop where
  pe : PG X tg t
  rf : RefGi X.K W ix t q
structure QGis (X : Cx) (W : WX) (ix : List Nat) (tg : List Expr) (t : TGs) (q : DTGs) : Prop where
  pe : PGs X tg t
  rf : RefGis X.K W ix t q
section
variable {K : PySem.W.Frag} {G H : Hp} {p : Rho} {M : Mst} {s : L2.St} {d : D} {v : V}
theorem Sim.set (S : Sim K G H p M s) (i : Nat) (r : Rep K G d v) : Sim K G H (p.set i (some d)) M (s.set i (some v)) := by
  refine ⟨S.same, fun j e h => ?_, by simp [S.len], S.mem⟩
  by_cases hj : i = j
  · subst hj
    by_cases hl : i < p.length
    · rw [List.getElem?_set_self hl] at h
      cases h
      exact ⟨v, by rw [List.getElem?_set_self (by rw [S.len]; exact hl)], r⟩
    · rw [List.getElem?_eq_none (by simpa using hl)] at h
      cases h
  · rw [List.getElem?_set_ne hj] at h ⊢
    exact S.env j e h
/-- a name is forgotten -/
theorem Sim.forget (S : Sim K G H p M s) (i : Nat) (v : Option V) : Sim K G H (p.set i none) M (s.set i v) := by
  refine ⟨S.same, fun j e h => ?_, by simp [S.len], S.mem⟩
  by_cases hj : i = j
  · subst hj
    by_cases hl : i < p.length
    · rw [List.getElem?_set_self hl] at h
      cases h
    · rw [List.getElem?_eq_none (by simpa using hl)] at h
      cases h
  · rw [List.getElem?_set_ne hj] at h ⊢
    exact S.env j e h
end
def wipeD (p : Rho) : List Nat → Rho
  | [] => p
  | v :: vs => (wipeD p vs).set v none
theorem Sim.wipe {K : PySem.W.Frag} {G H : Hp} {p : Rho} {M : Mst} {s : L2.St} (S : Sim K G H p M s) : ∀ vs : List Nat, Sim K G H (wipeD p vs) M (L2.wipe s vs)
  | [] => S
  | v :: vs => (Sim.wipe S vs).forget v none
@[simp] def gNameD (i : Nat) : DTG := fun d _ p M Q => Q (p.set i (some d)) M
@[simp] def gNilD : DTGs := fun ds _ p M Q => ds = [] ∧ Q p M
@[simp] def gConsD (g : DTG) (gs : DTGs) : DTGs := fun ds DW p M Q => match ds with
  | d :: r => g d DW p M fun p1 M1 => gs r DW p1 M1 Q
  | [] => False
def gTupD (n : Nat) (gs : DTGs) : DTG := fun d DW p M Q => match res M d with
  | .tup ds => ds.length = n ∧ gs ds DW p M Q
  | _ => False
/-- o[i] = v by values -/
def putD {κ : Type} [DecidableEq κ] (kvs : List (κ × D)) (k : κ) (v : D) : List (κ × D) :=
  if kvs.any (fun kv => decide (kv.1 = k)) then kvs.map (fun kv => if kv.1 = k then (kv.1, v) else kv) else kvs ++ [(k, v)]
def dSet (o i v : D) (M : Mst) (Q : Mst → Prop) : Prop := match o with
  | .ref a => match M a with
    | some (.lst ds) => match i with
      | .int k => match ixN ds.length k with
        | some j => Q (put M a (.lst (ds.set j v)))
        | none => False
      | _ => False
    | some (.dK kvs) => match keyD i with
      | some k => kvs.length < 100000 ∧ Q (put M a (.dK (putD kvs k v)))
      | none => False
    | some (.dT kvs) => match i with
      | .tup ks => match keysD ks with
        | some k => kvs.length < 100000 ∧ Q (put M a (.dT (putD kvs k v)))
        | none => False
      | _ => False
    | _ => False
  | _ => False
def gSubD (qo qi : DTE) : DTG := fun d DW p M Q => qo DW p M fun o M1 => qi DW p M1 fun i M2 => dSet o i d M2 fun M3 => Q p M3
section
variable {X : Cx} {W : WX} {x : Str} {pos : Pos}
theorem qg_name {i : Nat} {ix : List Nat} (h : PG X (.Name x pos) (gName i)) (hm : i ∈ ix) : QGi X W ix (.Name x pos) (gName i) (gNameD i) :=
  ⟨h, fun DW G H p M s d v Q Q' hw S r q k => k G H _ M _ (Same.refl _) (S.set i r) (Only.set hm) q⟩
theorem qgs_nil {ix : List Nat} : QGis X W ix [] gNil gNilD := ⟨pgs_nil, fun DW G H p M s ds vs Q Q' hw S r ⟨e, q⟩ k => by
  subst e; cases r; exact ⟨rfl, k G H p M s (Same.refl _) S (Only.refl _ _) q⟩⟩
theorem qgs_cons {ix : List Nat} {e : Expr} {es : List Expr} {t : TG} {q : DTG} {u : TGs} {r : DTGs} (h1 : QGi X W ix e t q) (h2 : QGis X W ix es u r) (hs : (assignEach (e :: es) X.env).map (·.2) = assign e X.env :: (assignEach es X.env).map (·.2) := by rfl) :
    QGis X W ix (e :: es) (gCons t u) (gConsD q r) := ⟨pgs_cons h1.pe h2.pe hs, fun DW G H p M s ds vs Q Q' hw S rr h k => by
  cases ds with
  | nil => exact h.elim
  | cons d ds =>
    obtain ⟨v, vr, e1, r1, r2⟩ := rr
    exact ⟨v, vr, e1, h1.rf DW G H p M s d v _ _ hw S r1 h fun G1 H1 p1 M1 s1 e1 S1 o1 h1 => h2.rf DW G1 H1 p1 M1 s1 ds vr Q Q' (hw.mono e1) S1 (RepL.mono e1 _ _ r2) h1
      fun G2 H2 p2 M2 s2 e2 S2 o2 h2 => k G2 H2 p2 M2 s2 (e1.trans e2) S2 (o1.trans o2) h2⟩⟩
theorem qg_tup {ix : List Nat} {es : List Expr} {kk : Nat} {t : TGs} {q : DTGs} {n : Nat} (hc : X.calm = true) (h : QGis X W ix es t q) (hn : (assignEach es X.env).length = n := by rfl) (hst : (assignEach es X.env).findIdx? (·.1) = none := by rfl) :
    QGi X W ix (.Tuple es kk pos) (gTup X.K n t) (gTupD n q) := ⟨pg_tup hc h.pe hn hst, fun DW G H p M s d v Q Q' hw S r hq k => by
  unfold gTupD at hq
  split at hq
  · next ds e1 =>
    obtain ⟨hl, hq⟩ := hq
    obtain ⟨a, vs, rfl, g1, g2, g3⟩ := as_tup S r e1
    exact ⟨a, vs, rfl, g1, g2.length.trans hl, h.rf DW G H p M s ds vs Q Q' hw S g2 hq k⟩
  · exact hq.elim⟩
theorem set_dict (hu : X.A.units + 1 < cLine) : PSet X (fun o i v H Q => ∃ a H4, o = .ref a ∧ DPut H a i v H4 ∧ Q H4) := by
  intro pins s σ H o i v ov iv u Q I ro ri rv h
  obtain ⟨a, H4, rfl, g, q⟩ := h
  cases ro
  exact d_setItem hu I g ri rv fun s' I' => ⟨H4, I', q⟩
def rSetX : TSet := fun o i v H Q => rSetL o i v H Q ∨ ∃ a H4, o = .ref a ∧ DPut H a i v H4 ∧ Q H4
theorem set_any (hu : X.A.units + 1 < cLine) : PSet X rSetX := by
  intro pins s σ H o i v ov iv u Q I ro ri rv h
  rcases h with h | h
  · exact set_list pins s σ H o i v ov iv u Q I ro ri rv h
  · exact set_dict hu pins s σ H o i v ov iv u Q I ro ri rv h
theorem any_key {κ : Type} [DecidableEq κ] {kvs : List (κ × D)} {kv : List (κ × V)} {k : κ} (h : kv.map (·.1) = kvs.map (·.1)) : kv.any (fun q => decide (q.1 = k)) = kvs.any (fun q => decide (q.1 = k)) := by
  have e1 : kv.any (fun q => decide (q.1 = k)) = (kv.map (·.1)).any (fun q => decide (q = k)) := by rw [List.any_map]; rfl
  have e2 : kvs.any (fun q => decide (q.1 = k)) = (kvs.map (·.1)).any (fun q => decide (q = k)) := by rw [List.any_map]; rfl
  rw [e1, e2, h]
theorem putMap_rel {K : PySem.W.Frag} {G : Hp} {κ : Type} [DecidableEq κ] {k : κ} {d : D} {v : V} (rd : Rep K G d v) : ∀ {kvs : List (κ × D)} {kv : List (κ × V)}, kv.map (·.1) = kvs.map (·.1) → RepL K G (kvs.map (·.2)) (kv.map (·.2)) →
    (kv.map fun q => if q.1 = k then (q.1, v) else q).map (·.1) = (kvs.map fun q => if q.1 = k then (q.1, d) else q).map (·.1) ∧ RepL K G ((kvs.map fun q => if q.1 = k then (q.1, d) else q).map (·.2)) ((kv.map fun q => if q.1 = k then (q.1, v) else q).map (·.2))
  | [], [], _, _ => ⟨rfl, rfl⟩
  | [], _ :: _, h, _ => by cases h
  | _ :: _, [], h, _ => by cases h
  | (a, e) :: kvs, (b, w) :: kv, h, r => by
    simp only [List.map_cons, List.cons.injEq] at h
    obtain ⟨rfl, h⟩ := h
    obtain ⟨v', r', e1, h2, h3⟩ := r
    simp only [List.map_cons, List.cons.injEq] at e1
    obtain ⟨rfl, rfl⟩ := e1
    obtain ⟨i1, i2⟩ := putMap_rel rd h h3
    by_cases z : b = k
    · simp only [List.map_cons, z, if_true]
      exact ⟨by rw [i1], RepL.cons rd i2⟩
    · simp only [List.map_cons, z, if_false]
      exact ⟨by rw [i1], RepL.cons h2 i2⟩
theorem put_rel {K : PySem.W.Frag} {G : Hp} {κ : Type} [DecidableEq κ] {kvs : List (κ × D)} {kv : List (κ × V)} {k : κ} {d : D} {v : V} (h : kv.map (·.1) = kvs.map (·.1)) (r : RepL K G (kvs.map (·.2)) (kv.map (·.2))) (rd : Rep K G d v) :
    (putK kv k v).map (·.1) = (putD kvs k d).map (·.1) ∧ RepL K G ((putD kvs k d).map (·.2)) ((putK kv k v).map (·.2)) ∧ (putK kv k v).length ≤ kv.length + 1 := by
  unfold putK putD
  rw [any_key h]
  cases kvs.any (fun q => decide (q.1 = k)) with
  | true =>
    simp only [if_true]
    obtain ⟨i1, i2⟩ := putMap_rel (k := k) rd h r
    exact ⟨i1, i2, by simp⟩
  | false =>
    simp only [Bool.false_eq_true, if_false]
    refine ⟨by simp [h], ?_, by simp⟩
    rw [List.map_append, List.map_append]
    exact RepL.append r (RepL.cons rd rfl)
theorem kOk_of {K : PySem.W.Frag} {G : Hp} {d : D} {v : V} {k : Key} (r : Rep K G d v) (h : keyD d = some k) : kOk k := by
  cases d with
  | int i => cases h; trivial
  | str x => cases h; exact r.2
  | _ => cases h
theorem kOks_of {K : PySem.W.Frag} {G : Hp} : ∀ {ds : List D} {vs : List V} {ks : List Key}, RepL K G ds vs → keysD ds = some ks → ks.length = ds.length ∧ ∀ k ∈ ks, kOk k
  | [], _, _, h, e => by cases h; cases e; exact ⟨rfl, fun _ h => by cases h⟩
  | d :: ds, _, ks, ⟨v, r, h1, h2, h3⟩, e => by
    simp only [keysD] at e
    split at e
    · next k ks' e1 e2 =>
      cases e
      obtain ⟨i1, i2⟩ := kOks_of h3 e2
      refine ⟨by simp [i1], fun q hq => ?_⟩
      rcases List.mem_cons.mp hq with rfl | hq
      · exact kOk_of h2 e1
      · exact i2 q hq
    · cases e
theorem putD_keys {κ : Type} [DecidableEq κ] {P : κ → Prop} {kvs : List (κ × D)} {k : κ} {d : D} (h : ∀ q ∈ kvs, P q.1) (hk : P k) : ∀ q ∈ putD kvs k d, P q.1 := by
  intro q hq
  unfold putD at hq
  split at hq
  · obtain ⟨r, h1, h2⟩ := List.mem_map.mp hq
    subst h2
    split
    · exact h r h1
    · exact h r h1
  · rcases List.mem_append.mp hq with hq | hq
    · exact h q hq
    · have : q = (k, d) := by simpa using hq
      subst this; exact hk
theorem qg_sub {ix : List Nat} {o i : Expr} {to ti : TE} {qo qi : DTE} (hu : X.A.units + 1 < cLine) (ho : QE X W o to qo) (hi : QE X W i ti qi)
    (ha : ∀ v, assign (.Subscript o i pos) X.env v = (do
      let ov ← holding [v] (eval o X.env)
      let iv ← holding [v, ov] (eval i X.env)
      standAt pos
      holding [v, ov, iv] (setItem ov iv v)
      release [v, ov, iv] []) := by intro _; rfl) : QGi X W ix (.Subscript o i pos) (gSub to ti rSetX) (gSubD qo qi) :=
  ⟨pg_sub ho.pe hi.pe (set_any hu) ha, fun DW G H p M s d v Q Q' hw S r h k => ho.rf DW G H p M s _ _ hw S h fun G1 H1 M1 x xv e1 S1 r1 h1 =>
    hi.rf DW G1 H1 p M1 s _ _ (hw.mono e1) S1 h1 fun G2 H2 M2 y yv e2 S2 r2 h2 => by
      have r' := Rep.mono (e1.trans e2) _ _ r
      have r1' := Rep.mono e2 _ _ r1
      unfold dSet at h2
      split at h2
      · next a =>
        cases r1'
        split at h2
        · next ds em =>
          obtain ⟨gn, vs, g1, g2, g3⟩ := S2.mem _ _ em
          split at h2
          · next n =>
            cases r2
            split at h2
            · next j ej =>
              refine .inl ⟨a, vs, n, j, rfl, rfl, g1, by rw [g2.length]; exact ej, ?_⟩
              exact k G2 _ p _ s (e1.trans e2) (S2.put (mo := .lst (ds.set j d)) gn ⟨_, upd_same, RepL.set j g2 r', by simpa using g3⟩) (Only.refl _ _) h2
            · exact h2.elim
          · exact h2.elim
        · next kvs em =>
          obtain ⟨gn, kv, g1, g2, g3, g4, g5⟩ := S2.mem _ _ em
          split at h2
          · next kk ek =>
            have kk1 := kOk_of r2 ek
            obtain ⟨hl, h2⟩ := h2
            cases keyD_of r2 ek
            have hl' : kv.length < sizeLine := by
              have e5 : kv.length = kvs.length := by have := congrArg List.length g2; simpa using this
              rw [sizeLine_eq]; omega
            obtain ⟨p1, p2, p3⟩ := put_rel (k := kk) g2 g3 r'
            refine .inr ⟨a, _, rfl, DPut.k g1 hl', ?_⟩
            exact k G2 _ p _ s (e1.trans e2) (S2.put (mo := .dK (putD kvs kk d)) gn ⟨_, upd_same, p1, p2, by omega, putD_keys g5 kk1⟩) (Only.refl _ _) h2
          · exact h2.elim
        · next kvs em =>
          obtain ⟨gn, kv, g1, g2, g3, g4, g5⟩ := S2.mem _ _ em
          split at h2
          · next ks =>
            split at h2
            · next kk ek =>
              obtain ⟨hl, h2⟩ := h2
              obtain ⟨b, ws, rfl, c1, c2, c3⟩ := r2
              have e6 := keysD_of c2 ek
              obtain ⟨kl, kk1⟩ := kOks_of c2 ek
              have kl' : kk.length ≤ sizeLine := by rw [kl, ← c2.length]; exact c3
              have hl' : kv.length < sizeLine := by
                have e5 : kv.length = kvs.length := by have := congrArg List.length g2; simpa using this
                rw [sizeLine_eq]; omega
              obtain ⟨p1, p2, p3⟩ := put_rel (k := kk) g2 g3 r'
              refine .inr ⟨a, _, rfl, DPut.t g1 (by rw [S2.same _ _ c1, e6]) hl', ?_⟩
              exact k G2 _ p _ s (e1.trans e2) (S2.put (mo := .dT (putD kvs kk d)) gn ⟨_, upd_same, p1, p2, by omega, putD_keys (P := fun k => k.length ≤ sizeLine ∧ ∀ x ∈ k, kOk x) g5 ⟨kl', kk1⟩⟩) (Only.refl _ _) h2
            · exact h2.elim
          · exact h2.elim
        · exact h2.elim
      · exact h2.elim⟩
@[simp] def qAsg (qe : DTE) (g : DTG) : DTS := fun DW DE p M => qe DW p M fun d M1 => g d DW p M1 DE.nx
theorem ref_asg {K : PySem.W.Frag} {te : TE} {qe : DTE} {t : TG} {g : DTG} {ix : List Nat} (h : RefE K W te qe) (hg : RefGi K W ix t g) : RefS K W (tAsg te t) (qAsg qe g) :=
  fun DW G H p M s DE E hw S q k => h DW G H p M s _ _ hw S q fun G1 H1 M1 d v e1 S1 r1 h1 => hg DW G1 H1 p M1 s d v _ _ (hw.mono e1) S1 r1 h1 fun G2 H2 p2 M2 s2 e2 S2 _ h2 => k.nx G2 H2 p2 M2 s2 (e1.trans e2) S2 h2
theorem qs_asg {tg e : Expr} {te : TE} {qe : DTE} {t : TG} {g : DTG} {ix : List Nat} (he : QE X W e te qe) (hg : QGi X W ix tg t g) (hs : swapsWithSole [tg] e pos.line X.env = pure false := by rfl) (hw : swappedStores [tg] e X.env = pure none := by rfl)
    (h1 : (assignEach [tg] X.env).map (·.2) = [assign tg X.env] := by rfl) : QS X W (.Assign [tg] e pos) (tAsg te t) (qAsg qe g) := ⟨ps_asg he.pe hg.pe hs hw h1, ref_asg he.rf hg.rf⟩
theorem qs_set {i : Nat} {x : Str} {e : Expr} {te : TE} {qe : DTE} {pos' : Pos} (h : PS X (.Assign [.Name x pos'] e pos) (tAsg te (gName i))) (he : RefE X.K W te qe) : QS X W (.Assign [.Name x pos'] e pos) (tAsg te (gName i)) (qAsg qe (gNameD i)) :=
  ⟨h, fun DW G H p M s DE E hw S q k => he DW G H p M s _ _ hw S q fun G1 H1 M1 d v e1 S1 r1 h1 => k.nx G1 H1 _ M1 _ e1 (S1.set i r1) h1⟩
@[simp] def qPar (i j : Nat) (qa : DTA) : DTS := fun DW DE p M => qa DW p M fun ds M1 => match ds with
  | [a, b] => DE.nx ((p.set i (some a)).set j (some b)) M1
  | _ => False
theorem qs_par {i j : Nat} {st : Stmt} {ta : TA} {qa : DTA} (h : PS X st (tPar i j ta)) (ha : RefA X.K W ta qa) : QS X W st (tPar i j ta) (qPar i j qa) :=
  ⟨h, fun DW G H p M s DE E hw S q k => ha DW G H p M s _ _ hw S q fun G1 H1 M1 ds vs e1 S1 r1 h1 => by
    split at h1
    · next a b =>
      obtain ⟨v, u, rfl, r2, r3⟩ := repL2 r1
      exact ⟨v, u, rfl, k.nx G1 H1 _ M1 _ e1 ((S1.set i r2).set j r3) h1⟩
    · exact h1.elim⟩
@[simp] def qPar3 (i j l : Nat) (qa : DTA) : DTS := fun DW DE p M => qa DW p M fun ds M1 => match ds with
  | [a, b, c] => DE.nx (((p.set i (some a)).set j (some b)).set l (some c)) M1
  | _ => False
/-- x op= e -/
def rAugX : TIp := fun x y H Q => ipI (fun i j => i + j) x y H Q ∨ rExt2 x y H Q
def dAug : DOp := fun x y M Q => match x, y with
  | .int i, .int j => Q (.int (i + j)) M
  | .ref a, y => match M a with
    | some (.lst ds) => match res M y with
      | .lst es => ds.length + es.length ≤ 100000 ∧ Q (.ref a) (put M a (.lst (ds ++ es)))
      | _ => False
    | _ => False
  | _, _ => False
theorem ip_any : PIp X .Add rAugX := by
  intro pins s σ H x y v u Q I r1 r2 h
  rcases h with h | h
  · exact ip_add pins s σ H x y v u Q I r1 r2 h
  · exact iop_ext pins s σ H x y v u Q I r1 r2 h
def qAug (i : Nat) (qe : DTE) (o : DOp) : DTS := fun DW DE p M => match p[i]? with
  | some (some x) => qe DW p M fun y M1 => o x y M1 fun z M2 => DE.nx (p.set i (some z)) M2
  | _ => False
theorem ref_aug {K : PySem.W.Frag} : RefR2 K rAugX dAug := fun G H p M s x y v u Q Q' S r1 r2 h k => by
  unfold dAug at h
  split at h
  · next i j => cases r1; cases r2; exact .inl ⟨i, j, rfl, rfl, k G H M (.int (i + j)) _ (Same.refl _) S rfl h⟩
  · next a =>
    cases r1
    split at h
    · next ds em =>
      obtain ⟨gn, vs, g1, g2, g3⟩ := S.mem _ _ em
      split at h
      · next es e1 =>
        obtain ⟨hl, h⟩ := h
        obtain ⟨b, us, rfl, c1, c2, c3⟩ := as_lst S r2 e1
        have z : vs.length + us.length ≤ sizeLine := by rw [g2.length, c2.length]; exact sz1000 hl
        refine .inr ⟨a, b, vs, us, rfl, rfl, g1, c1, z, ?_⟩
        exact k G _ _ (.ref a) _ (Same.refl _) (S.put (mo := .lst (ds ++ es)) gn ⟨_, upd_same, RepL.append g2 c2, by rw [List.length_append]; exact z⟩) rfl h
      · exact h.elim
    · exact h.elim
  · exact h.elim
theorem qs_augX {i : Nat} {x : Str} {e : Expr} {te : TE} {qe : DTE} {op : Operator} {ti : TIp} {o : DOp} {pos' : Pos} (h : PS X (.AugAssign (.Name x pos') op e pos) (tAug i te ti)) (he : RefE X.K W te qe) (ho : RefR2 X.K ti o) : QS X W (.AugAssign (.Name x pos') op e pos) (tAug i te ti) (qAug i qe o) :=
  ⟨h, fun DW G H p M s DE E hw S q k => by
    unfold qAug at q
    split at q
    · next d e =>
      obtain ⟨v, h1, h2⟩ := S.env i d e
      exact ⟨v, h1, he DW G H p M s _ _ hw S q fun G1 H1 M1 y u e1 S1 r1 q1 => ho G1 H1 p M1 s d y v u _ _ S1 (Rep.mono e1 _ _ h2) r1 q1 fun G2 H2 M2 z w e2 S2 r2 q2 => k.nx G2 H2 _ M2 _ (e1.trans e2) (S2.set i r2) q2⟩
    · exact q.elim⟩
end
end DL
namespace DL
open PySem L2
/-- an iterator that gives these things, as long as Sty holds of the mutable objects -/
structure Feed (K : PySem.W.Frag) (G : Hp) (J : It) (ds : List D) (Sty : Mst → Prop) : Prop where
  go : ∀ G' H p M s i, Same G G' → Sim K G' H p M s → Sty M → i < ds.length → J.go i H
  yld : ∀ G' H p M s i x H', Same G G' → Sim K G' H p M s → Sty M → J.yld i H x H' → ∀ d, ds[i]? = some d → ∃ G2, Same G' G2 ∧ Sim K G2 H' p M s ∧ Rep K G2 d x
  stop : ∀ G' H p M s, Same G G' → Sim K G' H p M s → Sty M → J.stop ds.length H
abbrev DTI := DWt → Rho → Mst → (List D → (Mst → Prop) → Mst → Prop) → Prop
def RefI (K : PySem.W.Frag) (W : WX) (t : TI) (q : DTI) : Prop := ∀ DW G H p M s (R : List D → (Mst → Prop) → Mst → Prop) (R' : It → Hp → Prop), WLink K G DW W → Sim K G H p M s → q DW p M R →
  (∀ G' H' M' J ds Sty, Same G G' → Sim K G' H' p M' s → Feed K G' J ds Sty → ds.length ≤ sizeLine → R ds Sty M' → R' J H') → t s H R'
structure QI (X : Cx) (W : WX) (tg e : Expr) (t : TI) (q : DTI) : Prop where
  pe : PI X tg e t
  rf : RefI X.K W t q
def always : Mst → Prop := fun _ => True
@[simp] theorem always_eq {M : Mst} : always M = True := rfl
section
variable {K : PySem.W.Frag} {G : Hp}
theorem feed_list {a : Addr} {ds : List D} {vs : List V} {Sty : Mst → Prop} (r : RepL K G ds vs) (h : ∀ G' H p M s, Same G G' → Sim K G' H p M s → Sty M → SqL K H a vs) : Feed K G (Itl K a) ds Sty where
  go := fun G' H p M s i e S st hi => by
    have q := h G' H p M s e S st
    have hl := r.length
    exact ⟨vs, vs[i]'(by omega), q, by simp [hl, hi]⟩
  yld := fun G' H p M s i x H' e S st y d hd => by
    obtain ⟨rfl, y⟩ := y
    have q := y vs (h G' _ p M s e S st)
    obtain ⟨v, h1, h2⟩ := (RepL.mono e _ _ r).get hd
    rw [q] at h1; cases h1
    exact ⟨G', Same.refl _, S, h2⟩
  stop := fun G' H p M s e S st => ⟨vs, h G' H p M s e S st, by rw [r.length]; exact Nat.le_refl _⟩
theorem feed_tup {a : Addr} {ds : List D} {vs : List V} (r : RepL K G ds vs) (h : SqT K G a vs) : Feed K G (Itt K a) ds always where
  go := fun G' H p M s i e S st hi => by
    have hl := r.length
    exact ⟨vs, vs[i]'(by omega), same_t (e.trans S.same) h, by simp [hl, hi]⟩
  yld := fun G' H p M s i x H' e S st y d hd => by
    obtain ⟨rfl, y⟩ := y
    have q := y vs (same_t (e.trans S.same) h)
    obtain ⟨v, h1, h2⟩ := (RepL.mono e _ _ r).get hd
    rw [q] at h1; cases h1
    exact ⟨G', Same.refl _, S, h2⟩
  stop := fun G' H p M s e S st => ⟨vs, same_t (e.trans S.same) h, by rw [r.length]; exact Nat.le_refl _⟩
def signs (z : Str) : List D := z.cps.toList.map fun c => .str ⟨#[c]⟩
theorem feed_str {z : Str} (ho : PyData.strOk z = true) : Feed K G (Its z) (signs z) always where
  go := fun G' H p M s i e S st hi => by show i < z.cps.size; simpa [signs] using hi
  yld := fun G' H p M s i x H' e S st y d hd => by
    obtain ⟨rfl, c, h1, rfl⟩ := y
    refine ⟨G', Same.refl _, S, ?_⟩
    simp only [signs, List.getElem?_map, Array.getElem?_toList, h1, Option.map_some, Option.some.injEq] at hd
    subst hd
    refine ⟨rfl, sz1000 (by show 1 ≤ 100000; decide), ?_⟩
    have ho' : ∀ y ∈ z.cps.toList, decide (y < 0x110000) = true := by
      unfold PyData.strOk at ho
      rw [← Array.all_toList] at ho
      exact List.all_eq_true.mp ho
    have := ho' c (by rw [Array.mem_toList_iff]; exact Array.mem_of_getElem? h1)
    simpa [PyData.strOk] using this
  stop := fun G' H p M s e S st => by show z.cps.size ≤ _; simp [signs]
def rangeD (lo : Int) (n : Nat) : List D := (List.range n).map fun i => .int (lo + (i : Nat))
theorem feed_range {lo : Int} {n : Nat} : Feed K G (Itr lo n) (rangeD lo n) always where
  go := fun G' H p M s i e S st hi => by simpa [rangeD, Itr] using hi
  yld := fun G' H p M s i x H' e S st y d hd => by
    obtain ⟨rfl, rfl⟩ := y
    refine ⟨G', Same.refl _, S, ?_⟩
    simp only [rangeD, List.getElem?_map, Option.map_eq_some_iff] at hd
    obtain ⟨j, h1, rfl⟩ := hd
    obtain ⟨h2, h3⟩ := List.getElem?_eq_some_iff.mp h1
    simp at h3
    subst h3
    rfl
  stop := fun G' H p M s e S st => by show n ≤ _; simp [rangeD]
end
def iAny (K : PySem.W.Frag) (tl : TE) : TI := fun σ H R => tl σ H fun x H1 => (∃ a, x = .ref a ∧ (∃ xs, SqL K H1 a xs) ∧ R (Itl K a) H1) ∨ (∃ a, x = .ref a ∧ (∃ xs, SqT K H1 a xs) ∧ R (Itt K a) H1) ∨ ∃ z, x = .str z ∧ R (Its z) H1
theorem pi_any {X : Cx} {tg l : Expr} {tl : TE} (hl : PE X l tl) : PI X tg l (iAny X.K tl) := by
  refine ⟨fun pins s σ H R I h => ?_⟩
  refine thn (hl.run pins s σ H _ I h) fun v s1 ⟨x, H1, I1, r1, q1⟩ => ?_
  rcases q1 with ⟨a, e, ⟨xs, hq⟩, q⟩ | ⟨a, e, ⟨xs, hq⟩, q⟩ | ⟨z, e, q⟩
  · subst e
    cases r1
    obtain ⟨its, rv, p, hz⟩ := I1.list hq
    refine wpAny_pyIter_list p.isList ?_
    refine ⟨s1.heap.objs.size, [s1.heap.objs.size], _, _, H1, rfl, I1.kept (t' := s1.toks) fun b o e => Heap.get?_push_of_some _ e, turn_list a _, ⟨_, Heap.get?_push_size _ rfl, rfl, rfl⟩, fun b hb => ?_, q⟩
    have e : b = s1.heap.objs.size := by simpa using hb
    subst e
    exact I1.fpOk (Nat.le_refl _) (I1.hok.fresh (Nat.le_refl _))
  · subst e
    cases r1
    obtain ⟨its, rv, p, hz⟩ := I1.tuple hq
    refine wpAny_pyIter_tuple (show s1.heap.IsTuple a its.toArray from p) ?_
    refine ⟨s1.heap.objs.size, [s1.heap.objs.size], _, _, H1, rfl, I1.kept (t' := s1.toks) fun b o e => Heap.get?_push_of_some _ e, turn_tuple a _, ⟨_, Heap.get?_push_size _ rfl, rfl, rfl⟩, fun b hb => ?_, q⟩
    have e : b = s1.heap.objs.size := by simpa using hb
    subst e
    exact I1.fpOk (Nat.le_refl _) (I1.hok.fresh (Nat.le_refl _))
  · subst e
    obtain ⟨t, rfl⟩ := r1
    cases ha : z.cps.all (· < 128)
    · exact wpAny_pyIter_wide ha (pi_one (tk := s1.toks) I1 _ (turn_str _ z t "str_iterator" (.inr rfl)) ⟨_, Heap.get?_push_size _ rfl, rfl, rfl⟩ q)
    · exact wpAny_pyIter_ascii ha (pi_one (tk := s1.toks) I1 _ (turn_str _ z t "str_ascii_iterator" (.inl rfl)) ⟨_, Heap.get?_push_size _ rfl, rfl, rfl⟩ q)
def holds (a : Addr) (o : MO) : Mst → Prop := fun M => M a = some o
@[simp] theorem holds_eq {a : Addr} {o : MO} {M : Mst} : holds a o M = (M a = some o) := rfl
def qiAny (qe : DTE) : DTI := fun DW p M R => qe DW p M fun d M1 => match d with
  | .lst ds => R ds always M1
  | .tup ds => R ds always M1
  | .ktp ds => R ds always M1
  | .xtp ds => R ds always M1
  | .str z => R (signs z) always M1
  | .ref a => match M1 a with
    | some (.lst ds) => R ds (holds a (.lst ds)) M1
    | _ => False
  | _ => False
section
variable {X : Cx} {W : WX} {tg e : Expr} {te : TE} {qe : DTE}
theorem qi_any (he : QE X W e te qe) : QI X W tg e (iAny X.K te) (qiAny qe) :=
  ⟨pi_any he.pe, fun DW G H p M s R R' hw S h k => he.rf DW G H p M s _ _ hw S h fun G1 H1 M1 d v e1 S1 r1 h1 => by
    split at h1
    · next ds =>
      obtain ⟨a, vs, rfl, g1, g2, g3⟩ := r1
      refine .inl ⟨a, rfl, ⟨vs, .inl (.inl (S1.same _ _ g1))⟩, k G1 H1 M1 _ ds always e1 S1 (feed_list g2 fun G' H p M s e S _ => .inl (.inl (S.same _ _ (e _ _ g1)))) (by rw [← g2.length]; exact g3) h1⟩
    · next ds =>
      obtain ⟨a, vs, rfl, g1, g2, g3⟩ := r1
      exact .inr (.inl ⟨a, rfl, ⟨vs, .inl (.inl (S1.same _ _ g1))⟩, k G1 H1 M1 _ ds always e1 S1 (feed_tup g2 (.inl (.inl g1))) (by rw [← g2.length]; exact g3) h1⟩)
    · next ds =>
      obtain ⟨a, vs, rfl, g1, g2, g3⟩ := r1
      exact .inr (.inl ⟨a, rfl, ⟨vs, same_t S1.same g1⟩, k G1 H1 M1 _ ds always e1 S1 (feed_tup g2 g1) (by rw [← g2.length]; exact g3) h1⟩)
    · next ds =>
      obtain ⟨a, o, vs, rfl, g1, g0, g2, g3⟩ := r1
      exact .inr (.inl ⟨a, rfl, ⟨vs, .inl (.inr ⟨o, S1.same _ _ g1⟩)⟩, k G1 H1 M1 _ ds always e1 S1 (feed_tup g2 (.inl (.inr ⟨o, g1⟩))) (by rw [← g2.length]; exact g3) h1⟩)
    · next z =>
      obtain ⟨rfl, g1, g2⟩ := r1
      exact .inr (.inr ⟨z, rfl, k G1 H1 M1 _ _ always e1 S1 (feed_str g2) (by simpa [signs, Str.length] using g1) h1⟩)
    · next a =>
      cases r1
      split at h1
      · next ds em =>
        obtain ⟨gn, vs, g1, g2, g3⟩ := S1.mem _ _ em
        have lk : ∀ G' H p M s, Same G1 G' → Sim X.K G' H p M s → holds a (.lst ds) M → ∃ us, H a = some (.lst us) ∧ RepL X.K G' ds us := fun G' H p M s e S st => by
          obtain ⟨_, us, c1, c2, _⟩ := S.mem _ _ st
          exact ⟨us, c1, c2⟩
        refine .inl ⟨a, rfl, ⟨vs, .inl (.inl g1)⟩, k G1 H1 M1 _ ds _ e1 S1 ⟨fun G' H p M s i e S st hi => ?_, fun G' H p M s i x H' e S st y d hd => ?_, fun G' H p M s e S st => ?_⟩ (by rw [← g2.length]; exact g3) h1⟩
        · obtain ⟨us, c1, c2⟩ := lk G' H p M s e S st
          have hl := c2.length
          exact ⟨us, us[i]'(by omega), .inl (.inl c1), by simp [hl, hi]⟩
        · obtain ⟨us, c1, c2⟩ := lk G' H p M s e S st
          obtain ⟨rfl, y⟩ := y
          have q := y us (.inl (.inl c1))
          obtain ⟨v, h1, h2⟩ := c2.get hd
          rw [q] at h1; cases h1
          exact ⟨G', Same.refl _, S, h2⟩
        · obtain ⟨us, c1, c2⟩ := lk G' H p M s e S st
          exact ⟨us, .inl (.inl c1), by rw [c2.length]; exact Nat.le_refl _⟩
      · exact h1.elim
    · exact h1.elim⟩
/-- range(n), range(a, b) -/
def qiRng1 (qa : DTA) : DTI := fun DW p M R => qa DW p M fun ds M1 => match ds with
  | [.int j] => -(2 ^ 62) ≤ j ∧ j ≤ 100000 ∧ R (rangeD 0 j.toNat) always M1
  | _ => False
variable {a b : Expr} {ta : TA} {qa : DTA} {p pos : Pos}
theorem qi_range1 (hg : Gl X "range") (hm : X.mg "range" = none) (ha : QA X W [a] ta qa) (hs : starEach [a] X.env = [(false, eval a X.env)] := by rfl) : QI X W tg (.Call (.Name "range" p) [a] [] pos) (iRng1 ta) (qiRng1 qa) :=
  ⟨pi_range1 hg hm ha.pe hs, fun DW G H p M s R R' hw S h k => ha.rf DW G H p M s _ _ hw S h fun G1 H1 M1 ds vs e1 S1 r1 h1 => by
    split at h1
    · next j =>
      obtain ⟨v, rfl, r2⟩ := repL1 r1
      cases r2
      obtain ⟨b1, b2, h1⟩ := h1
      exact ⟨j, rfl, b1, by omega, k G1 H1 M1 _ _ _ e1 S1 feed_range (by simp only [rangeD, List.length_map, List.length_range]; exact sz1000 (by omega)) h1⟩
    · exact h1.elim⟩
end
def loopL (Sty : Mst → Prop) (g : DTG) (tb : DTS) (DW : DWt) (DE : DEnds) : List D → Rho → Mst → Prop
  | [], p, M => Sty M ∧ DE.nx p M
  | d :: ds, p, M => Sty M ∧ g d DW p M fun p' M' => tb DW { DE with nx := loopL Sty g tb DW DE ds, ct := loopL Sty g tb DW DE ds, bk := DE.nx } p' M'
def qFor (qi : DTI) (g : DTG) (tb : DTS) : DTS := fun DW DE p M => qi DW p M fun ds Sty M1 => loopL Sty g tb DW DE ds p M1
section
variable {X : Cx} {W : WX} {tg iter : Expr} {body : List Stmt} {wi : TI} {qi : DTI} {t : TG} {g : DTG} {ix : List Nat} {tb : TS} {qb : DTS} {pos : Pos}
theorem ref_for {K : PySem.W.Frag} (hi : RefI K W wi qi) (hg : RefGi K W ix t g) (hb : RefS K W tb qb) : RefS K W (tFor wi t tb) (qFor qi g qb) :=
  fun DW G H p M s DE E hw S h k => hi DW G H p M s _ _ hw S h fun G1 H1 M1 J ds Sty e1 S1 F hlen h1 => by
    refine ⟨fun i m σ H => m = ds.length - i ∧ i ≤ ds.length ∧ ∃ G' p' M', Same G1 G' ∧ Sim K G' H p' M' σ ∧ loopL Sty g qb DW DE (ds.drop i) p' M', ⟨ds.length, by simp, Nat.zero_le _, G1, p, M1, Same.refl _, S1, by simpa using h1⟩, ?_⟩
    rintro i m σ H2 ⟨rfl, hi2, G', p', M', e2, S2, h2⟩
    by_cases hlt : i < ds.length
    · have ed : ds.drop i = ds[i] :: ds.drop (i + 1) := List.drop_eq_getElem_cons hlt
      rw [ed] at h2
      obtain ⟨st, h2⟩ := h2
      refine .inr ⟨F.go G' H2 p' M' σ i e2 S2 st hlt, fun σ' H' => ∃ G3 p3 M3, Same G1 G3 ∧ Sim K G3 H' p3 M3 σ' ∧ loopL Sty g qb DW DE (ds.drop (i + 1)) p3 M3,
        fun σ' H' n => ⟨ds.length - (i + 1), by omega, rfl, hlt, n⟩, fun x H' y => ?_⟩
      obtain ⟨G3, e3, S3, r3⟩ := F.yld G' H2 p' M' σ i x H' e2 S2 st y ds[i] (List.getElem?_eq_getElem hlt)
      have e13 := e2.trans e3
      refine hg DW G3 H' p' M' σ _ x _ _ (hw.mono (e1.trans e13)) S3 r3 h2 fun G4 H4 p4 M4 σ4 e4 S4 _ h4 => ?_
      have e14 := e13.trans e4
      refine hb DW G4 H4 p4 M4 σ4 _ _ (hw.mono (e1.trans e14)) S4 h4 ⟨fun G5 H5 p5 M5 σ5 e5 S5 h5 => ⟨G5, p5, M5, e14.trans e5, S5, h5⟩, fun G5 H5 p5 M5 σ5 d v e5 S5 r5 h5 => k.rt G5 H5 p5 M5 σ5 d v ((e1.trans e14).trans e5) S5 r5 h5,
        fun G5 H5 p5 M5 σ5 e5 S5 h5 => k.nx G5 H5 p5 M5 σ5 ((e1.trans e14).trans e5) S5 h5, fun G5 H5 p5 M5 σ5 e5 S5 h5 => ⟨G5, p5, M5, e14.trans e5, S5, h5⟩⟩
    · have e : i = ds.length := by omega
      subst e
      rw [List.drop_length] at h2
      exact .inl ⟨F.stop G' H2 p' M' σ e2 S2 h2.1, k.nx G' H2 p' M' σ (e1.trans e2) S2 h2.2⟩
theorem qs_for (hp : PassesOwn (model X.prog X.w) X.A X.env X.xe) (hc : X.calm = true) (hi : QI X W tg iter wi qi) (hg : QGi X W ix tg t g) (hb : QSs X W body tb qb) (hs : ∀ x, foldedSetIterable iter X.env x = pure x := by intro _; rfl) :
    QS X W (.For tg iter body [] pos) (tFor wi t tb) (qFor qi g qb) := ⟨ps_for hp hc hi.pe hg.pe hb.pe hs, ref_for hi.rf hg.rf hb.rf⟩
def whileL (qc : DTT) (tb : DTS) (DW : DWt) (DE : DEnds) : Nat → Rho → Mst → Prop
  | 0, _, _ => False
  | n + 1, p, M => qc DW p M fun b M1 => if b = true then tb DW { DE with nx := whileL qc tb DW DE n, ct := whileL qc tb DW DE n, bk := DE.nx } p M1 else DE.nx p M1
def qWhile (qc : DTT) (tb : DTS) : DTS := fun DW DE p M => ∃ n, whileL qc tb DW DE n p M
theorem ref_while {K : PySem.W.Frag} {c : TT} {qc : DTT} (hc : RefT K W c qc) (hb : RefS K W tb qb) : RefS K W (tWhile c tb) (qWhile qc qb) :=
  fun DW G H p M s DE E hw S ⟨n, h⟩ k => by
    refine ⟨fun m σ H => ∃ G' p' M', Same G G' ∧ Sim K G' H p' M' σ ∧ whileL qc qb DW DE m p' M', ⟨n, G, p, M, Same.refl _, S, h⟩, ?_⟩
    rintro m σ H2 ⟨G', p', M', e2, S2, h2⟩
    cases m with
    | zero => exact h2.elim
    | succ m =>
      refine hc DW G' H2 p' M' σ _ _ (hw.mono e2) S2 h2 fun G3 H3 M3 b e3 S3 h3 => ?_
      cases b with
      | true =>
        rw [if_pos rfl] at h3 ⊢
        refine ⟨fun σ' H' => ∃ G4 p4 M4, Same G G4 ∧ Sim K G4 H' p4 M4 σ' ∧ whileL qc qb DW DE m p4 M4, fun σ' H' q => ⟨m, Nat.lt_succ_self _, q⟩, ?_⟩
        have e13 := e2.trans e3
        exact hb DW G3 H3 p' M3 σ _ _ (hw.mono e13) S3 h3 ⟨fun G5 H5 p5 M5 σ5 e5 S5 h5 => ⟨G5, p5, M5, e13.trans e5, S5, h5⟩, fun G5 H5 p5 M5 σ5 d v e5 S5 r5 h5 => k.rt G5 H5 p5 M5 σ5 d v (e13.trans e5) S5 r5 h5,
          fun G5 H5 p5 M5 σ5 e5 S5 h5 => k.nx G5 H5 p5 M5 σ5 (e13.trans e5) S5 h5, fun G5 H5 p5 M5 σ5 e5 S5 h5 => ⟨G5, p5, M5, e13.trans e5, S5, h5⟩⟩
      | false =>
        rw [if_neg Bool.false_ne_true] at h3 ⊢
        exact k.nx G3 H3 p' M3 σ (e2.trans e3) S3 h3
theorem qs_while {c : Expr} {tc : TT} {qc : DTT} (hp : PassesOwn (model X.prog X.w) X.A X.env X.xe) (hc : QT X W c tc qc) (hb : QSs X W body tb qb) : QS X W (.While c body [] pos) (tWhile tc tb) (qWhile qc qb) := ⟨ps_while hp hc.pe hb.pe, ref_while hc.rf hb.rf⟩
end
abbrev W0 : WX := fun _ _ _ _ => False
abbrev DW0 : DWt := fun _ _ _ => False
structure QTs (X : Cx) (W : WX) (ifs : List Expr) (t : TT) (q : DTT) : Prop where
  pe : PTs X ifs t
  rf : RefT X.K W t q
@[simp] def qYes : DTT := fun _ _ M Q => Q true M
theorem qts_nil {X : Cx} {W : WX} : QTs X W [] tYes qYes := ⟨pts_nil, fun DW G H p M s Q Q' hw S h k => k G H M true (Same.refl _) S h⟩
theorem qts_one {X : Cx} {W : WX} {c : Expr} {t : TT} {q : DTT} (h : QT X W c t q) : QTs X W [c] t q := ⟨pts_one h.pe, h.rf⟩
/-- what is made stands at a -/
def compL (m : Bool) (Sty : Mst → Prop) (g : DTG) (tt : DTT) (te : DTE) (ix : List Nat) (a : Addr) (p : Rho) (Q : DK) : List D → Mst → Prop
  | [], M => Sty M ∧ match M a with
    | some (.lst acc) => if m = true then Q (.ref a) M else Q (.lst acc) (del M a)
    | _ => False
  | d :: ds, M => Sty M ∧ g d DW0 (wipeD p ix) M fun p2 M2 => tt DW0 p2 M2 fun b M3 => if b = true then te DW0 p2 M3 fun y M4 => match M4 a with
      | some (.lst acc) => acc.length < 100000 ∧ compL m Sty g tt te ix a p Q ds (put M4 a (.lst (acc ++ [y])))
      | _ => False
    else compL m Sty g tt te ix a p Q ds M3
def qLc (m : Bool) (qi : DTI) (g : DTG) (tt : DTT) (te : DTE) (ix : List Nat) : DTE := fun DW p M Q => qi DW p M fun ds Sty M1 => ∀ a, M1 a = none → compL m Sty g tt te ix a p Q ds (put M1 a (.lst []))
theorem ref_lc {K : PySem.W.Frag} {W : WX} {wi : TI} {qi : DTI} {t : TG} {g : DTG} {ix : List Nat} {tt : TT} {qt : DTT} {te : TE} {qe : DTE} {m : Bool} (hi : RefI K W wi qi) (hg : RefGi K W0 ix t g) (ht : RefT K W0 tt qt) (he : RefE K W0 te qe) :
    RefE K W (tLc wi t tt te ix) (qLc m qi g qt qe ix) :=
  fun DW G H p M s Q Q' hw S h k => hi DW G H p M s _ _ hw S h fun G1 H1 M1 J ds Sty e1 S1 F hlen h1 a ha => by
    have w0 : ∀ G, WLink K G DW0 W0 := fun G G' H' p' M' s' x cls dx e S r z => z.elim
    have h1' := h1 a (S1.mem.fresh ha)
    have S1' : Sim K G1 (upd H1 a (.lst [])) p (put M1 a (.lst [])) s := S1.put (mo := .lst []) (S1.same.free ha) ⟨[], upd_same, rfl, Nat.zero_le _⟩
    refine ⟨fun i n H => n = ds.length - i ∧ i ≤ ds.length ∧ ∃ G' M', Same G1 G' ∧ Sim K G' H p M' s ∧ compL m Sty g qt qe ix a p Q (ds.drop i) M', ⟨ds.length, by simp, Nat.zero_le _, G1, _, Same.refl _, S1', by simpa using h1'⟩, ?_⟩
    rintro i n H2 ⟨rfl, hi2, G', M', e2, S2, h2⟩
    by_cases hlt : i < ds.length
    · have ed : ds.drop i = ds[i] :: ds.drop (i + 1) := List.drop_eq_getElem_cons hlt
      rw [ed] at h2
      obtain ⟨st, h2⟩ := h2
      refine .inr ⟨F.go G' H2 p M' s i e2 S2 st hlt, fun H' => ∃ G3 M3, Same G1 G3 ∧ Sim K G3 H' p M3 s ∧ compL m Sty g qt qe ix a p Q (ds.drop (i + 1)) M3, fun H' q => ⟨ds.length - (i + 1), by omega, rfl, hlt, q⟩, fun x H' y => ?_⟩
      obtain ⟨G3, e3, S3, r3⟩ := F.yld G' H2 p M' s i x H' e2 S2 st y ds[i] (List.getElem?_eq_getElem hlt)
      have e13 := e2.trans e3
      refine hg DW0 G3 H' (wipeD p ix) M' (L2.wipe s ix) _ x _ _ (w0 _) (S3.wipe ix) r3 h2 fun G4 H4 p4 M4 s4 e4 S4 o4 h4 => ?_
      have back : ∀ {G H M}, Sim K G H p4 M s4 → Sim K G H p M s → True := fun _ _ => trivial
      have ww : L2.wipe s4 ix = L2.wipe s ix := by
        rw [o4.wipe]
        apply List.ext_getElem?
        intro j
        by_cases hj : j ∈ ix
        · by_cases hl : j < s.length
          · rw [wipe_in hj (by rw [wipe_length]; exact hl), wipe_in hj hl]
          · rw [List.getElem?_eq_none (by rw [wipe_length, wipe_length]; omega), List.getElem?_eq_none (by rw [wipe_length]; omega)]
        · rw [wipe_get hj]
      have e14 := e13.trans e4
      -- the slots of the frame itself are as they were
      have home : ∀ {G H M}, Same G1 G → Sim K G H p4 M s4 → Sim K G H p M s := fun {G H M} eg Sx =>
        ⟨Sx.same, fun j d hd => by
          obtain ⟨v, q1, q2⟩ := S1.env j d hd
          exact ⟨v, q1, Rep.mono eg _ _ q2⟩, S1.len, Sx.mem⟩
      refine ⟨ww, ht DW0 G4 H4 p4 M4 s4 _ _ (w0 _) S4 h4 fun G5 H5 M5 b e5 S5 h5 => ?_⟩
      have e15 := e14.trans e5
      cases b with
      | false =>
        rw [if_neg Bool.false_ne_true] at h5 ⊢
        exact ⟨G5, M5, e15, home e15 S5, h5⟩
      | true =>
        rw [if_pos rfl] at h5 ⊢
        refine he DW0 G5 H5 p4 M5 s4 _ _ (w0 _) S5 h5 fun G6 H6 M6 d v e6 S6 r6 h6 => ?_
        have e16 := e15.trans e6
        split at h6
        · next acc em =>
          obtain ⟨hl, h6⟩ := h6
          obtain ⟨gn, vs, c1, c2, c3⟩ := S6.mem _ _ em
          refine ⟨vs, c1, by rw [c2.length, sizeLine_eq]; omega, G6, _, e16, (home e16 S6).put (mo := .lst (acc ++ [d])) gn ⟨_, upd_same, RepL.append c2 (RepL.cons r6 rfl), ?_⟩, h6⟩
          rw [List.length_append, c2.length, sizeLine_eq]
          simp
          omega
        · exact h6.elim
    · have e : i = ds.length := by omega
      subst e
      rw [List.drop_length] at h2
      obtain ⟨st, h2⟩ := h2
      refine .inl ⟨F.stop G' H2 p M' s e2 S2 st, ?_⟩
      split at h2
      · next acc em =>
        cases m with
        | true =>
          rw [if_pos rfl] at h2
          exact k G' H2 M' (.ref a) _ (e1.trans e2) S2 rfl h2
        | false =>
          rw [if_neg Bool.false_ne_true] at h2
          obtain ⟨G3, e3, S3, r3⟩ := S2.freeze em
          exact k G3 H2 _ _ _ ((e1.trans e2).trans e3) S3 r3 h2
      · exact h2.elim
section
variable {X : Cx} {W : WX} {elt tg iter : Expr} {ifs : List Expr} {scope : Scope} {own : List (Str × Nat)} {pos : Pos} {wi : TI} {qi : DTI} {g : TG} {qg : DTG} {tt : TT} {qt : DTT} {te : TE} {qe : DTE}
theorem q_lc (m : Bool) (hc : X.calm = true) (hN : X.N.Nodup) (hi : QI X W tg iter wi qi) (ok : BlkOk X.N X.env.scope scope own)
    (hg : ∀ (s : Shared) (H : Hp) (C : Addr) (cl : List (Str × Addr)) (fp : List Addr), QGi (X.blk s H scope (compEnvC scope cl C X.env) fp) W0 (own.map (·.2)) tg g qg)
    (ht : ∀ (s : Shared) (H : Hp) (C : Addr) (cl : List (Str × Addr)) (fp : List Addr), QTs (X.blk s H scope (compEnvC scope cl C X.env) fp) W0 ifs tt qt)
    (he : ∀ (s : Shared) (H : Hp) (C : Addr) (cl : List (Str × Addr)) (fp : List Addr), QE (X.blk s H scope (compEnvC scope cl C X.env) fp) W0 elt te qe) (hs : ∀ x, foldedSetIterable iter X.env x = pure x := by intro _; rfl) :
    QE X W (.ListComp elt [⟨tg, iter, ifs, 0⟩] scope pos) (tLc wi g tt te (own.map (·.2))) (qLc m qi qg qt qe (own.map (·.2))) :=
  ⟨pe_lc hc hN hi.pe ok (fun s H C cl fp => (hg s H C cl fp).pe) (fun s H C cl fp => (ht s H C cl fp).pe) (fun s H C cl fp => (he s H C cl fp).pe) hs,
    ref_lc hi.rf (hg X.s_0 X.H_0 0 [] []).rf (ht X.s_0 X.H_0 0 [] []).rf (he X.s_0 X.H_0 0 [] []).rf⟩
theorem qs_setLc (m : Bool) {i : Nat} {y : Str} {py spos : Pos} (hc : X.calm = true) (hN : X.N.Nodup) (hy : X.N[i]? = some y) (hyl : X.env.scope.names.lookup y = some .local)
    (hsw : swapsWith (.ListComp elt [⟨tg, iter, ifs, 0⟩] scope pos) (some (.Name y py)) spos.line X.env = pure true) (hi : QI X W tg iter wi qi) (ok : BlkOk X.N X.env.scope scope own)
    (hg : ∀ (s : Shared) (H : Hp) (C : Addr) (cl : List (Str × Addr)) (fp : List Addr), QGi (X.blk s H scope (compEnvC scope cl C X.env) fp) W0 (own.map (·.2)) tg g qg)
    (ht : ∀ (s : Shared) (H : Hp) (C : Addr) (cl : List (Str × Addr)) (fp : List Addr), QTs (X.blk s H scope (compEnvC scope cl C X.env) fp) W0 ifs tt qt)
    (he : ∀ (s : Shared) (H : Hp) (C : Addr) (cl : List (Str × Addr)) (fp : List Addr), QE (X.blk s H scope (compEnvC scope cl C X.env) fp) W0 elt te qe) (hs : ∀ x, foldedSetIterable iter X.env x = pure x := by intro _; rfl) :
    QS X W (.Assign [.Name y py] (.ListComp elt [⟨tg, iter, ifs, 0⟩] scope pos) spos) (tAsg (tLc wi g tt te (own.map (·.2))) (gName i)) (qAsg (qLc m qi qg qt qe (own.map (·.2))) (gNameD i)) :=
  qs_set (ps_setLc hc hN hy hyl hsw hi.pe ok (fun s H C cl fp => (hg s H C cl fp).pe) (fun s H C cl fp => (ht s H C cl fp).pe) (fun s H C cl fp => (he s H C cl fp).pe) hs)
    (ref_lc hi.rf (hg X.s_0 X.H_0 0 [] []).rf (ht X.s_0 X.H_0 0 [] []).rf (he X.s_0 X.H_0 0 [] []).rf)
end
end DL
namespace DL
open PySem L2
def toSp (K : PySem.W.Frag) (P : DSp) : Sp := fun vs H Q E => ∃ (G : Hp) (ds : List D) (M : Mst) (Qd : DK) (Ed : DX → Mst → Prop), Same G H ∧ RepL K G ds vs ∧ MemOk K G H M ∧ P ds M Qd Ed ∧
  (∀ G' H' v d M', Same G G' → Same G' H' → Rep K G' d v → MemOk K G' H' M' → Qd d M' → Q v H') ∧
  (∀ G' H' x cls dx M', Same G G' → Same G' H' → RepX K G' x cls dx → MemOk K G' H' M' → Ed x M' → E cls dx H')
def startD (N : List Str) (ds : List D) : Rho := ds.map some ++ List.replicate (N.length - ds.length) none
section
variable {P : Program} {w : World} {K : PySem.W.Frag} {mg : Str → Option Value} {base : Heap}
theorem start_sim {G H : Hp} {ds : List D} {vs : List V} {M : Mst} {N : List Str} (e : Same G H) (r : RepL K G ds vs) (hm : MemOk K G H M) : Sim K G H (startD N ds) M (L2.start N vs) := by
  have hl := r.length
  refine ⟨e, fun i d h => ?_, by simp [startD, L2.start, hl], hm⟩
  unfold startD at h
  unfold L2.start
  by_cases hi : i < ds.length
  · rw [List.getElem?_append_left (by simpa using hi)] at h
    rw [List.getElem?_append_left (by simp [hl, hi])]
    simp only [List.getElem?_map, Option.map_eq_some_iff, Option.some.injEq] at h
    obtain ⟨d', h1, rfl⟩ := h
    obtain ⟨v, h2, h3⟩ := r.get h1
    exact ⟨v, by simp [h2], h3⟩
  · rw [List.getElem?_append_right (by simpa using hi)] at h
    rw [List.getElem?_replicate] at h
    split at h <;> cases h
/-- THE RULE for a def: its body's reading by data -/
theorem fn_ok {x qual : Str} {st : Stmt} {f : Addr} {fd : FuncData} {N ps : List Str} {k : Nat} {p : DSp} (F : Fun K x qual st f fd) (S : FnScope N ps (defScope st)) (len : ∀ ds M Q E, p ds M Q E → ds.length = ps.length)
    (hbody : ∀ (cdv : Value) (A : Around) (outer : List Env) (s : Shared) (H : Hp) (E : XK), Room k (A.deeper (PyProof.Rows.envOfC qual (defScope st) s.heap.objs.size f cdv)) →
      Takes (cxOf (L2.CX P w) P w K mg base N qual (defScope st) f cdv A outer s H E) (fun cls d _ H => E cls d H) →
      PassesOwn (model P w) (cxOf (L2.CX P w) P w K mg base N qual (defScope st) f cdv A outer s H E).A (cxOf (L2.CX P w) P w K mg base N qual (defScope st) f cdv A outer s H E).env (cxOf (L2.CX P w) P w K mg base N qual (defScope st) f cdv A outer s H E).xe →
      ∃ t q, QSs (cxOf (L2.CX P w) P w K mg base N qual (defScope st) f cdv A outer s H E) (fun cls d _ H => E cls d H) (defBody st) t q ∧
        ∀ ds M Q Ed, p ds M Q Ed → q (fun x _ M => Ed x M) { nx := fun _ M => Q .non M, rt := Q } (startD N ds) M) : FnOk P w K mg base (L2.CX P w) (k + 1) f fd ps (toSp K p) := by
  refine F.okX S (fun vs H Q E h => ?_) (fun cdv A outer s H vs Q E hr h => ?_)
  · obtain ⟨G, ds, M, Qd, Ed, _, r, _, hp, _⟩ := h
    rw [r.length]; exact len _ _ _ _ hp
  · obtain ⟨G, ds, M, Qd, Ed, e, r, hm, hp, kq, ke⟩ := h
    obtain ⟨t, q, hq, hs⟩ := hbody cdv A outer s H E hr (takes_of rfl rfl rfl rfl) (passes_of rfl)
    refine ⟨t, hq.pe, hq.rf (fun x _ M => Ed x M) G H (startD N ds) M (L2.start N vs) _ _ (fun G' H' p' M' s' x cls dx e1 S1 r1 h1 => ke G' H' x cls dx M' e1 S1.same r1 S1.mem h1) (start_sim e r hm) (hs ds M Qd Ed hp)
      ⟨fun G' H' p' M' s' e1 S1 h1 => kq G' H' .non .non M' e1 S1.same rfl S1.mem h1, fun G' H' p' M' s' d v e1 S1 r1 h1 => kq G' H' v d M' e1 S1.same r1 S1.mem h1, fun _ _ _ _ _ _ _ h => h.elim, fun _ _ _ _ _ _ _ h => h.elim⟩⟩
end
@[simp] def qCall (P : DSp) (dds : List D) (qa : DTA) : DTE := fun DW p M Q => qa DW p M fun ds M1 => P (ds ++ dds) M1 Q fun x M2 => DW x p M2
section
variable {X : Cx} {W : WX} {k : Nat} {f : Addr} {fd : FuncData} {ps : List Str} {P : DSp} {dds : List D} {dvs : List V} {ds : List Value} {x : Str} {p pos : Pos} {e : Expr} {es : List Expr} {t : TA} {q : DTA}
/-- what a callee's promise gives at a call -/
theorem toSp_at {K : PySem.W.Frag} {DW : DWt} {G H : Hp} {p : Rho} {M : Mst} {s : L2.St} {ds : List D} {vs : List V} {Q : DK} {Q' : VK} (hw : WLink K G DW W) (S : Sim K G H p M s) (r : RepL K G ds vs) (h : P ds M Q fun x M2 => DW x p M2)
    (k : ∀ G' H' M' d v, Same G G' → Sim K G' H' p M' s → Rep K G' d v → Q d M' → Q' v H') : toSp K P vs H Q' (WE W s) := by
  have up : ∀ {G' H' M'}, Same G G' → Same G' H' → MemOk K G' H' M' → Sim K G' H' p M' s := fun {G' H' M'} e1 e2 hm => ⟨e2, fun i d hd => by
    obtain ⟨v, h1, h2⟩ := S.env i d hd
    exact ⟨v, h1, Rep.mono e1 _ _ h2⟩, S.len, hm⟩
  exact ⟨G, ds, M, Q, _, S.same, r, S.mem, h, fun G' H' v d M' e1 e2 r1 hm q => k G' H' M' d v e1 (up e1 e2 hm) r1 q, fun G' H' x cls dx M' e1 e2 r1 hm q => hw G' H' p M' s x cls dx e1 (up e1 e2 hm) r1 q⟩
theorem ref_call {K : PySem.W.Frag} (ha : RefA K W t q) (hd : ∀ G, RepL K G dds dvs) : RefE K W (tCallSD (toSp K P) dvs (fun s => WE W s) t) (qCall P dds q) :=
  fun DW G H p M s Q Q' hw S h k => ha DW G H p M s _ _ hw S h fun G1 H1 M1 as vs e1 S1 r1 h1 => toSp_at (hw.mono e1) S1 (RepL.append r1 (hd _)) h1 fun G' H' M' d v e2 => k G' H' M' d v (e1.trans e2)
/-- f(e, ..), a def of the module -/
theorem q_call (F : FnOk X.prog X.w X.K X.mg X.base (L2.CX X.prog X.w) k f fd ps (toSp X.K P)) (hr : Room k X.A) (tk : Takes X W) (hg : Gl X x) (hm : X.mg x = some (.ref f)) (hk : PySem.W.keepIn X.K (.ref f) = true) (hb : Binds X.K fd ps ds) (hd : Vals dvs ds) (hdd : ∀ G, RepL X.K G dds dvs)
    (ha : QA X W (e :: es) t q) (hdb : (x == ("__debug__" : Str)) = false := by decide) (he : starEach (e :: es) X.env = (false, eval e X.env) :: starEach es X.env := by rfl) (hpl : (backTo pos (starEach es X.env)).any (·.1) = false := by rfl) :
    QE X W (.Call (.Name x p) (e :: es) [] pos) (tCallSD (toSp X.K P) dvs (fun s => WE W s) t) (qCall P dds q) :=
  ⟨pe_callSD F hr hg hm hk hb hd (fun σ => passAt tk σ) ha.pe hdb he hpl, ref_call ha.rf hdd⟩
end
def tyOk (T : String) : D → Bool
  | .lst _ => T == "list"
  | .str _ => T == "str"
  | _ => false
theorem tyV_of {K : PySem.W.Frag} {G H : Hp} {p : Rho} {M : Mst} {s : L2.St} {T : String} {x : D} {v : V} (S : Sim K G H p M s) (r : Rep K G x v) (h : tyOk T (res M x) = true) : tyV K T v H := by
  cases e : res M x with
  | lst ds =>
    rw [e] at h
    obtain ⟨a, vs, rfl, g1, g2, g3⟩ := as_lst S r e
    exact .inl ⟨by simpa [tyOk] using h, vs, .inl (.inl g1)⟩
  | str z =>
    rw [e] at h
    obtain ⟨rfl, _⟩ := as_str r e
    show T = "str"
    simpa [tyOk] using h
  | _ => rw [e] at h; cases h
abbrev DMt := D → List D → Mst → DK → Prop
def RefM (K : PySem.W.Frag) (r : V → List V → Hp → VK → Prop) (q : DMt) : Prop := ∀ G H p M s x v ds vs (Q : DK) (Q' : VK), Sim K G H p M s → Rep K G x v → RepL K G ds vs → q x ds M Q →
  (∀ G' H' M' d w, Same G G' → Sim K G' H' p M' s → Rep K G' d w → Q d M' → Q' w H') → r v vs H Q'
structure QMt (X : Cx) (id : String) (r : V → List V → Hp → VK → Prop) (q : DMt) : Prop where
  op : MtR X id r
  rf : RefM X.K r q
def qBM (T : String) (m : DMt) (qo : DTE) (qa : DTA) : DTE := fun DW p M Q => qo DW p M fun x M1 => tyOk T (res M1 x) = true ∧ qa DW p M1 fun ds M2 => m x ds M2 Q
def qBM0 (T : String) (m : DMt) (qo : DTE) : DTE := fun DW p M Q => qo DW p M fun x M1 => tyOk T (res M1 x) = true ∧ m x [] M1 Q
section
variable {X : Cx} {W : WX} {o e : Expr} {es : List Expr} {to : TE} {qo : DTE} {t : TA} {qa : DTA} {name : Str} {apos cpos : Pos} {T id : String} {r : V → List V → Hp → VK → Prop} {m : DMt}
theorem q_bm0 (pa : PlainAttrs T) (slot : Slot T name id) (hty : typeOf (.builtin id) = pure (.type "method_descriptor")) (hm : QMt X id r m) (ho : QE X W o to qo)
    (hbase : attributeBase o name X.env (eval o X.env) = eval o X.env := by rfl) (hline : (apos.endLine == cpos.line) = true := by rfl) : QE X W (.Call (.Attribute o name apos) [] [] cpos) (tBM0 X.K T r to) (qBM0 T m qo) :=
  ⟨pe_bm0 pa slot hty hm.op ho.pe hbase hline, fun DW G H p M s Q Q' hw S h k => ho.rf DW G H p M s _ _ hw S h fun G1 H1 M1 x v e1 S1 r1 ⟨ty, h1⟩ => ⟨tyV_of S1 r1 ty, hm.rf G1 H1 p M1 s x v [] [] Q Q' S1 r1 rfl h1 fun G' H' M' d w e2 => k G' H' M' d w (e1.trans e2)⟩⟩
theorem q_bm (pa : PlainAttrs T) (slot : Slot T name id) (hty : typeOf (.builtin id) = pure (.type "method_descriptor")) (hm : QMt X id r m) (ho : QE X W o to qo) (ha : QA X W (e :: es) t qa)
    (hbase : attributeBase o name X.env (eval o X.env) = eval o X.env := by rfl)
    (hfew : ((backTo cpos (starEach (e :: es) X.env)).all (fun x => !x.1) && (backToKw cpos (keywordEach [] X.env)).all (fun x => x.1.isSome)
      && decide ((e :: es).length + ([] : List Keyword).length + (if ([] : List Keyword).isEmpty then 0 else 1) < 30)) = true := by rfl)
    (hline : (apos.endLine == cpos.line) = true := by rfl) (hs : starEach (e :: es) X.env = (false, eval e X.env) :: starEach es X.env := by rfl) (hplain : (backTo cpos (starEach es X.env)).any (·.1) = false := by rfl) :
    QE X W (.Call (.Attribute o name apos) (e :: es) [] cpos) (tBM X.K T r to t) (qBM T m qo qa) :=
  ⟨pe_bm pa slot hty hm.op ho.pe ha.pe hbase hfew hline hs hplain, fun DW G H p M s Q Q' hw S h k => ho.rf DW G H p M s _ _ hw S h fun G1 H1 M1 x v e1 S1 r1 ⟨ty, h1⟩ => ⟨tyV_of S1 r1 ty,
    ha.rf DW G1 H1 p M1 s _ _ (hw.mono e1) S1 h1 fun G2 H2 M2 ds vs e2 S2 r2 h2 => hm.rf G2 H2 p M2 s x v ds vs Q Q' S2 (Rep.mono e2 _ _ r1) r2 h2 fun G' H' M' d w e3 => k G' H' M' d w ((e1.trans e2).trans e3)⟩⟩
end
def mApp : DMt := fun x ds M Q => match x, ds with
  | .ref a, [d] => match M a with
    | some (.lst es) => es.length < 100000 ∧ Q .non (put M a (.lst (es ++ [d])))
    | _ => False
  | _, _ => False
def mExt : DMt := fun x ds M Q => match x, ds with
  | .ref a, [d] => match M a, res M d with
    | some (.lst es), .lst fs => es.length + fs.length ≤ 100000 ∧ Q .non (put M a (.lst (es ++ fs)))
    | _, _ => False
  | _, _ => False
def mPop : DMt := fun x ds M Q => match x, ds with
  | .ref a, [] => match M a with
    | some (.lst es) => match es[es.length - 1]? with
      | some d => Q d (put M a (.lst es.dropLast))
      | none => False
    | _ => False
  | _, _ => False
theorem RepL.dropLast {K : PySem.W.Frag} {G : Hp} {ds : List D} {vs : List V} (h : RepL K G ds vs) : RepL K G ds.dropLast vs.dropLast := by
  rw [List.dropLast_eq_take, List.dropLast_eq_take, h.length]
  exact RepL.take _ h
section
variable {X : Cx}
theorem m_append : QMt X "list.append" rAppend mApp := ⟨mt_append, fun G H p M s x v ds vs Q Q' S r1 r2 h k => by
  unfold mApp at h
  split at h
  · next a d =>
    cases r1
    obtain ⟨u, rfl, r3⟩ := repL1 r2
    split at h
    · next es em =>
      obtain ⟨hl, h⟩ := h
      obtain ⟨gn, us, g1, g2, g3⟩ := S.mem _ _ em
      have e1 := g2.length
      have z := sizeLine_eq
      refine ⟨a, us, u, rfl, rfl, g1, by omega, k G _ _ .non _ (Same.refl _) (S.put (mo := .lst (es ++ [d])) gn ⟨_, upd_same, RepL.append g2 (RepL.cons r3 rfl), ?_⟩) rfl h⟩
      rw [List.length_append]; simp; omega
    · exact h.elim
  · exact h.elim⟩
theorem m_extend : QMt X "list.extend" rExtend mExt := ⟨mt_extend, fun G H p M s x v ds vs Q Q' S r1 r2 h k => by
  unfold mExt at h
  split at h
  · next a d =>
    cases r1
    obtain ⟨u, rfl, r3⟩ := repL1 r2
    split at h
    · next es fs em ef =>
      obtain ⟨hl, h⟩ := h
      obtain ⟨gn, us, g1, g2, g3⟩ := S.mem _ _ em
      obtain ⟨b, ws, rfl, c1, c2, c3⟩ := as_lst S r3 ef
      have e1 := g2.length
      have e2 := c2.length
      have z := sizeLine_eq
      refine ⟨a, b, us, ws, rfl, rfl, g1, c1, by omega, k G _ _ .non _ (Same.refl _) (S.put (mo := .lst (es ++ fs)) gn ⟨_, upd_same, RepL.append g2 c2, ?_⟩) rfl h⟩
      rw [List.length_append]; omega
    · exact h.elim
  · exact h.elim⟩
theorem m_pop : QMt X "list.pop" rPop mPop := ⟨mt_pop, fun G H p M s x v ds vs Q Q' S r1 r2 h k => by
  unfold mPop at h
  split at h
  · next a =>
    cases r1
    cases r2
    split at h
    · next es em =>
      obtain ⟨gn, us, g1, g2, g3⟩ := S.mem _ _ em
      split at h
      · next d ed =>
        obtain ⟨w, h1, h2⟩ := g2.get ed
        have e1 := g2.length
        refine ⟨a, us, w, rfl, rfl, g1, by rw [e1]; exact h1, k G _ _ d _ (Same.refl _) (S.put (mo := .lst es.dropLast) gn ⟨_, upd_same, g2.dropLast, ?_⟩) h2 h⟩
        rw [List.length_dropLast]; omega
      · exact h.elim
    · exact h.elim
  · exact h.elim⟩
end
def qDNew : DTE := fun _ _ M Q => ∀ a, M a = none → Q (.ref a) (put M a (.dK []))
section
variable {X : Cx} {W : WX} {pos : Pos}
theorem q_dnew : QE X W (.Dict [] [] pos) tDNewK qDNew := ⟨pe_dnewK, fun DW G H p M s Q Q' hw S h k a ha =>
  k G _ _ (.ref a) _ (Same.refl _) (S.put (mo := .dK []) (S.same.free ha) ⟨[], upd_same, rfl, rfl, Nat.zero_le _, fun q hq => by cases hq⟩) rfl (h a (S.mem.fresh ha))⟩
end
/-- the mutable dict at a is read only, then as before -/
def qLock (sel : Rho → Mst → Option Addr) (q : DTS) : DTS := fun DW DE p M => match sel p M with
  | some a => match M a with
    | some (.dK kvs) => ∀ ho, q DW ⟨fun p' M' => M' a = some (.lk ho kvs) ∧ DE.nx p' (put M' a (.dK kvs)), fun d M' => M' a = some (.lk ho kvs) ∧ DE.rt d (put M' a (.dK kvs)), fun p' M' => M' a = some (.lk ho kvs) ∧ DE.bk p' (put M' a (.dK kvs)), fun p' M' => M' a = some (.lk ho kvs) ∧ DE.ct p' (put M' a (.dK kvs))⟩ p (put M a (.lk ho kvs))
    | some (.dT kvs) => ∀ ho, q DW ⟨fun p' M' => M' a = some (.lkT ho kvs) ∧ DE.nx p' (put M' a (.dT kvs)), fun d M' => M' a = some (.lkT ho kvs) ∧ DE.rt d (put M' a (.dT kvs)), fun p' M' => M' a = some (.lkT ho kvs) ∧ DE.bk p' (put M' a (.dT kvs)), fun p' M' => M' a = some (.lkT ho kvs) ∧ DE.ct p' (put M' a (.dT kvs))⟩ p (put M a (.lkT ho kvs))
    | _ => False
  | none => False
section
variable {X : Cx} {W : WX} {sel : Rho → Mst → Option Addr}
theorem qs_lock {st : Stmt} {t : TS} {q : DTS} (h : QS X W st t q) : QS X W st (tLock t) (qLock sel q) := ⟨ps_lock h.pe, fun DW G H p M s DE E hw S hq k => by
  unfold qLock at hq
  split at hq
  · next a _ =>
    split at hq
    · next kvs em =>
      obtain ⟨gn, kv, g1, g2, g3, g4, g5⟩ := S.mem _ _ em
      refine ⟨a, _, g1, trivial, fun od => ?_⟩
      have S1 : Sim X.K G (upd H a (.frz od (.dK kv))) p (put M a (.lk (.frz od (.dK kv)) kvs)) s := S.put (mo := .lk (.frz od (.dK kv)) kvs) gn ⟨od, kv, rfl, upd_same, g2, g3, g4, g5⟩
      have back : ∀ {G' H' p' M' s'}, Same G G' → Sim X.K G' H' p' M' s' → M' a = some (.lk (.frz od (.dK kv)) kvs) → H' a = some (.frz od (.dK kv)) ∧ Sim X.K G' (upd H' a (.dK kv)) p' (put M' a (.dK kvs)) s' := fun {G' H' p' M' s'} e S' em' => by
        obtain ⟨gn', o', kv', h0, h1, _⟩ := S'.mem _ _ em'
        exact ⟨h1, S'.put (mo := .dK kvs) gn' ⟨kv, upd_same, g2, RepL.mono e _ _ g3, g4, g5⟩⟩
      refine h.rf DW G _ p _ s _ _ hw S1 (hq (.frz od (.dK kv))) ⟨fun G' H' p' M' s' e S' ⟨h1, h2⟩ => ?_, fun G' H' p' M' s' d v e S' r ⟨h1, h2⟩ => ?_, fun G' H' p' M' s' e S' ⟨h1, h2⟩ => ?_, fun G' H' p' M' s' e S' ⟨h1, h2⟩ => ?_⟩
      · obtain ⟨b1, b2⟩ := back e S' h1; exact ⟨b1, k.nx _ _ _ _ _ e b2 h2⟩
      · obtain ⟨b1, b2⟩ := back e S' h1; exact ⟨b1, k.rt _ _ _ _ _ _ _ e b2 r h2⟩
      · obtain ⟨b1, b2⟩ := back e S' h1; exact ⟨b1, k.bk _ _ _ _ _ e b2 h2⟩
      · obtain ⟨b1, b2⟩ := back e S' h1; exact ⟨b1, k.ct _ _ _ _ _ e b2 h2⟩
    · next kvs em =>
      obtain ⟨gn, kv, g1, g2, g3, g4, g5⟩ := S.mem _ _ em
      refine ⟨a, _, g1, trivial, fun od => ?_⟩
      have S1 : Sim X.K G (upd H a (.frz od (.dT kv))) p (put M a (.lkT (.frz od (.dT kv)) kvs)) s := S.put (mo := .lkT (.frz od (.dT kv)) kvs) gn ⟨od, kv, rfl, upd_same, g2, g3, g4, g5⟩
      have back : ∀ {G' H' p' M' s'}, Same G G' → Sim X.K G' H' p' M' s' → M' a = some (.lkT (.frz od (.dT kv)) kvs) → H' a = some (.frz od (.dT kv)) ∧ Sim X.K G' (upd H' a (.dT kv)) p' (put M' a (.dT kvs)) s' := fun {G' H' p' M' s'} e S' em' => by
        obtain ⟨gn', o', kv', h0, h1, _⟩ := S'.mem _ _ em'
        exact ⟨h1, S'.put (mo := .dT kvs) gn' ⟨kv, upd_same, g2, RepL.mono e _ _ g3, g4, g5⟩⟩
      refine h.rf DW G _ p _ s _ _ hw S1 (hq (.frz od (.dT kv))) ⟨fun G' H' p' M' s' e S' ⟨h1, h2⟩ => ?_, fun G' H' p' M' s' d v e S' r ⟨h1, h2⟩ => ?_, fun G' H' p' M' s' e S' ⟨h1, h2⟩ => ?_, fun G' H' p' M' s' e S' ⟨h1, h2⟩ => ?_⟩
      · obtain ⟨b1, b2⟩ := back e S' h1; exact ⟨b1, k.nx _ _ _ _ _ e b2 h2⟩
      · obtain ⟨b1, b2⟩ := back e S' h1; exact ⟨b1, k.rt _ _ _ _ _ _ _ e b2 r h2⟩
      · obtain ⟨b1, b2⟩ := back e S' h1; exact ⟨b1, k.bk _ _ _ _ _ e b2 h2⟩
      · obtain ⟨b1, b2⟩ := back e S' h1; exact ⟨b1, k.ct _ _ _ _ _ e b2 h2⟩
    · exact hq.elim
  · exact hq.elim⟩
end
def kD : Key → D
  | .inl i => .int i
  | .inr x => .str x
theorem rep_key {K : PySem.W.Frag} {G : Hp} {k : Key} (h : kOk k) : Rep K G (kD k) (kV k) := by
  cases k with
  | inl i => rfl
  | inr x => exact ⟨rfl, h⟩
def qiItems (qe : DTE) : DTI := fun DW p M R => qe DW p M fun d M1 => match d with
  | .ref a => match M1 a with
    | some (.lk ho kvs) => R (kvs.map fun q => .tup [kD q.1, q.2]) (holds a (.lk ho kvs)) M1
    | _ => False
  | _ => False
theorem pair_at {κ : Type} {kvs : List (κ × D)} {kv : List (κ × V)} (h : kv.map (·.1) = kvs.map (·.1)) {i : Nat} {q : κ × D} {k : κ} {v : V} (h1 : kvs[i]? = some q) (h2 : kv[i]? = some (k, v)) : k = q.1 := by
  have e1 : (kv.map (·.1))[i]? = some k := by simp [h2]
  rw [h] at e1
  simp [h1] at e1
  exact e1.symm
section
variable {X : Cx} {W : WX} {tg e : Expr} {td : TE} {qd : DTE} {apos cpos : Pos}
theorem qi_items {elts : List Expr} {kk : Nat} {tpos : Pos} (he : QE X W e td qd) (hbase : attributeBase e "items" X.env (eval e X.env) = eval e X.env := by rfl) (hline : (apos.endLine == cpos.line) = true := by rfl) :
    QI X W (.Tuple elts kk tpos) (.Call (.Attribute e "items" apos) [] [] cpos) (iItems td) (qiItems qd) :=
  ⟨pi_items he.pe hbase hline, fun DW G H p M s R R' hw S h k => he.rf DW G H p M s _ _ hw S h fun G1 H1 M1 d v e1 S1 r1 h1 => by
  split at h1
  · next a =>
    cases r1
    split at h1
    · next ho kvs em =>
      obtain ⟨gn, o, kv, c0, c1, c2, c3, c4, c5⟩ := S1.mem _ _ em
      subst c0
      have hl : kv.length = kvs.length := by have := congrArg List.length c2; simpa using this
      refine ⟨a, o, kv, rfl, c1, k G1 H1 M1 _ _ _ e1 S1 ⟨fun G' H p M s i e S st hi => ?_, fun G' H p M s i x H' e S st y d hd => ?_, fun G' H p M s e S st => ?_⟩ (by rw [List.length_map, ← hl]; exact c4) h1⟩
      · obtain ⟨_, o', kv', b0, b1, _⟩ := S.mem _ _ st
        exact ⟨b1, by simpa [hl] using hi⟩
      · obtain ⟨T, k', v', y1, rfl, y2, rfl⟩ := y
        simp only [List.getElem?_map, Option.map_eq_some_iff] at hd
        obtain ⟨q, q1, rfl⟩ := hd
        have := pair_at c2 q1 y1
        subst this
        obtain ⟨e2, S2⟩ := S.made (o := .tup [kV q.1, v']) y2
        obtain ⟨w, w1, w2⟩ := (RepL.mono e _ _ c3).get (i := i) (d := q.2) (by simp [q1])
        simp only [List.getElem?_map, y1, Option.map_some, Option.some.injEq] at w1
        subst w1
        exact ⟨_, e2, S2, T, _, rfl, upd_same, RepL.mono e2 _ _ (RepL.cons (rep_key (c5 q (List.mem_of_getElem? q1))) (RepL.cons w2 rfl)), sz1000 (by simp)⟩
      · obtain ⟨_, o', kv', b0, b1, _⟩ := S.mem _ _ st
        exact ⟨b1, by simp [hl]⟩
    · exact h1.elim
  · exact h1.elim⟩
end
end DL
namespace DL
open PySem L2
def frz (i : Nat) (p : Rho) (M : Mst) (R : Rho → Mst → Prop) : Prop := match p[i]? with
  | some (some (.ref a)) => match M a with
    | some (.lst ds) => R (p.set i (some (.lst ds))) (del M a)
    | some (.dK kvs) => R (p.set i (some (.dct (kvs.map (·.1)) (kvs.map (·.2))))) (del M a)
    | some (.ins C fs) => R (p.set i (some (.ins C (fs.map (·.1)) (fs.map (·.2))))) (del M a)
    | _ => False
  | _ => False
def qFrz (i : Nat) (q : DTS) : DTS := fun DW DE p M => frz i p M (q DW DE)
theorem Sim.slot {K : PySem.W.Frag} {G H : Hp} {p : Rho} {M : Mst} {s : L2.St} {i : Nat} {a : Addr} {d : D} (S : Sim K G H p M s) (h : ∃ v, s[i]? = some (some v) ∧ v = .ref a) (r : Rep K G d (.ref a)) : Sim K G H (p.set i (some d)) M s := by
  obtain ⟨v, h1, rfl⟩ := h
  refine ⟨S.same, fun j e h => ?_, by rw [List.length_set]; exact S.len, S.mem⟩
  rw [List.getElem?_set] at h
  split at h
  · next z =>
    subst z
    split at h
    · cases h; exact ⟨_, h1, r⟩
    · cases h
  · exact S.env j e h
theorem qs_frz {X : Cx} {W : WX} {st : Stmt} {t : TS} {q : DTS} (i : Nat) (h : QS X W st t q) : QS X W st t (qFrz i q) := ⟨h.pe, fun DW G H p M s DE E hw S hq k => by
  unfold qFrz frz at hq
  split at hq
  · next a ei =>
    obtain ⟨v, s1, r1⟩ := S.env i _ ei
    have hv : ∃ v, s[i]? = some (some v) ∧ v = .ref a := ⟨v, s1, r1⟩
    split at hq
    · next ds em =>
      obtain ⟨G', e, S', r⟩ := S.freeze em
      exact h.rf DW G' H _ _ s DE E (hw.mono e) (S'.slot hv r) hq (k.mono e)
    · next kvs em =>
      obtain ⟨G', e, S', r⟩ := S.freezeD em
      exact h.rf DW G' H _ _ s DE E (hw.mono e) (S'.slot hv r) hq (k.mono e)
    · next C fs em =>
      obtain ⟨G', e, S', r⟩ := S.freezeI em
      exact h.rf DW G' H _ _ s DE E (hw.mono e) (S'.slot hv r) hq (k.mono e)
    · exact hq.elim
  · exact hq.elim⟩
/-- what is locked: the dict in slot i; the field f of what slot i holds -/
def selN (i : Nat) : Rho → Mst → Option Addr := fun p _ => match p[i]? with
  | some (some (.ref a)) => some a
  | _ => none
def enumD : Nat → List D → List D
  | _, [] => []
  | n, d :: ds => .tup [.int n, d] :: enumD (n + 1) ds
@[simp] theorem enumD_length : ∀ (n : Nat) (ds : List D), (enumD n ds).length = ds.length
  | _, [] => rfl
  | n, d :: ds => by simp [enumD, enumD_length]
theorem enumD_get : ∀ (n : Nat) (ds : List D) (i : Nat), (enumD n ds)[i]? = (ds[i]?).map fun d => .tup [.int ((n + i : Nat) : Int), d]
  | _, [], i => by simp [enumD]
  | n, d :: ds, 0 => by simp [enumD]
  | n, d :: ds, i + 1 => by
    have e : n + 1 + i = n + (i + 1) := by omega
    simp only [enumD, List.getElem?_cons_succ, enumD_get (n + 1) ds i, e]
def zipD : List D → List D → List D
  | a :: as, b :: bs => .tup [a, b] :: zipD as bs
  | _, _ => []
theorem zipD_get : ∀ (as bs : List D) (i : Nat), (zipD as bs)[i]? = match as[i]?, bs[i]? with | some a, some b => some (.tup [a, b]) | _, _ => none
  | a :: as, b :: bs, 0 => by simp [zipD]
  | a :: as, b :: bs, i + 1 => by simp [zipD, zipD_get as bs i]
  | [], bs, i => by simp [zipD]
  | a :: as, [], i => by simp [zipD]
@[simp] theorem zipD_length : ∀ (as bs : List D), (zipD as bs).length = min as.length bs.length
  | a :: as, b :: bs => by simp [zipD, zipD_length as bs]
  | [], bs => by simp [zipD]
  | a :: as, [] => by simp [zipD]
/-- the things of a list, frozen or not, and what keeps them -/
def lstAt (M : Mst) : D → Option (List D × (Mst → Prop))
  | .lst ds => some (ds, always)
  | .ref a => match M a with
    | some (.lst ds) => some (ds, holds a (.lst ds))
    | _ => none
  | _ => none
theorem lstAt_of {K : PySem.W.Frag} {G H : Hp} {p : Rho} {M : Mst} {s : L2.St} {d : D} {v : V} {ds : List D} {Sty : Mst → Prop} (S : Sim K G H p M s) (r : Rep K G d v) (h : lstAt M d = some (ds, Sty)) : Sty M ∧ ∃ a, v = .ref a ∧ ds.length ≤ sizeLine ∧
    ∀ G' H' p' M' s', Same G G' → Sim K G' H' p' M' s' → Sty M' → ∃ us, SqL K H' a us ∧ RepL K G' ds us := by
  unfold lstAt at h
  split at h
  · cases h
    obtain ⟨a, vs, rfl, g1, g2, g3⟩ := r
    exact ⟨trivial, a, rfl, by rw [← g2.length]; exact g3, fun G' H' p' M' s' e S' _ => ⟨vs, .inl (.inl (S'.same _ _ (e _ _ g1))), RepL.mono e _ _ g2⟩⟩
  · next a =>
    split at h
    · next ds' em =>
      cases h
      cases r
      obtain ⟨gn, vs, g1, g2, g3⟩ := S.mem _ _ em
      refine ⟨em, a, rfl, by rw [← g2.length]; exact g3, fun G' H' p' M' s' e S' st => ?_⟩
      obtain ⟨_, us, c1, c2, _⟩ := S'.mem _ _ st
      exact ⟨us, .inl (.inl c1), c2⟩
    · cases h
  · cases h
theorem get_lt {α : Type} {xs : List α} {i : Nat} (h : i < xs.length) : ∃ x, xs[i]? = some x := ⟨_, List.getElem?_eq_getElem h⟩
def qiEnum (qa : DTA) : DTI := fun DW p M R => qa DW p M fun ds M1 => match ds with
  | [x] => match lstAt M1 x with
    | some (es, Sty) => R (enumD 0 es) Sty M1
    | none => False
  | _ => False
section
variable {X : Cx} {W : WX} {e e2 : Expr} {ta : TA} {qa : DTA} {p pos tpos : Pos} {elts : List Expr} {kk : Nat}
theorem qi_enum (hg : Gl X "enumerate") (hm : X.mg "enumerate" = none) (ha : QA X W [e] ta qa) (hs : starEach [e] X.env = [(false, eval e X.env)] := by rfl) :
    QI X W (.Tuple elts kk tpos) (.Call (.Name "enumerate" p) [e] [] pos) (iEnum X.K ta) (qiEnum qa) :=
  ⟨pi_enum hg hm ha.pe hs, fun DW G H p M s R R' hw S h k => ha.rf DW G H p M s _ _ hw S h fun G1 H1 M1 ds vs e1 S1 r1 h1 => by
    split at h1
    · next x =>
      obtain ⟨v, rfl, r2⟩ := repL1 r1
      split at h1
      · next es Sty el =>
        obtain ⟨hst, a, rfl, hlen, lk⟩ := lstAt_of S1 r2 el
        obtain ⟨us, u1, _⟩ := lk G1 H1 p M1 s (Same.refl _) S1 hst
        refine ⟨a, us, rfl, u1, k G1 H1 M1 _ _ _ e1 S1 ⟨fun G' H p M s i e S st hi => ?_, fun G' H p M s i x H' e S st y d hd => ?_, fun G' H p M s e S st => ?_⟩ (by rw [enumD_length]; exact hlen) h1⟩
        · obtain ⟨us, c1, c2⟩ := lk G' H p M s e S st
          rw [enumD_length, ← c2.length] at hi
          obtain ⟨x, hx⟩ := get_lt hi
          exact ⟨us, x, c1, hx⟩
        · obtain ⟨us, c1, c2⟩ := lk G' H p M s e S st
          obtain ⟨T, x', rfl, hT, rfl, y⟩ := y
          rw [enumD_get] at hd
          cases ed : es[i]? with
          | none => rw [ed] at hd; cases hd
          | some d' =>
            rw [ed] at hd
            simp only [Option.map_some, Option.some.injEq, Nat.zero_add] at hd
            subst hd
            obtain ⟨w, w1, w2⟩ := c2.get ed
            rw [y us c1] at w1; cases w1
            obtain ⟨e2, S2⟩ := S.made (o := .tup [.int (i : Nat), x']) hT
            exact ⟨_, e2, S2, T, _, rfl, upd_same, RepL.mono e2 _ _ (RepL.cons (d := .int (i : Nat)) rfl (RepL.cons w2 rfl)), sz1000 (by simp)⟩
        · obtain ⟨us, c1, c2⟩ := lk G' H p M s e S st
          exact ⟨us, c1, by rw [enumD_length, c2.length]; exact Nat.le_refl _⟩
      · exact h1.elim
    · exact h1.elim⟩
end
def intsL : List D → Option (List Int)
  | [] => some []
  | .int i :: ds => match intsL ds with
    | some is => some (i :: is)
    | none => none
  | _ :: _ => none
theorem intsL_eq : ∀ {ds : List D} {ns : List Int}, intsL ds = some ns → ds = ns.map .int
  | [], ns, h => by cases h; rfl
  | d :: ds, ns, h => by
    unfold intsL at h
    split at h
    · next e => cases e
    · next i ds' e =>
      cases e
      split at h
      · next is e => cases h; rw [intsL_eq e]; rfl
      · cases h
    · cases h
@[simp] theorem intsL_map : ∀ ns : List Int, intsL (ns.map D.int) = some ns
  | [] => rfl
  | n :: ns => by simp [intsL, intsL_map ns]
theorem repL_ints {K : PySem.W.Frag} {G : Hp} : ∀ {ns : List Int} {vs : List V}, RepL K G (ns.map D.int) vs → vs = ns.map V.int
  | [], _, h => by cases h; rfl
  | n :: ns, _, ⟨v, q, h1, h2, h3⟩ => by cases h1; cases h2; rw [repL_ints h3]; rfl
theorem repL_intsR {K : PySem.W.Frag} {G : Hp} : ∀ {ns : List Int}, RepL K G (ns.map D.int) (ns.map V.int)
  | [] => rfl
  | n :: ns => ⟨_, _, rfl, rfl, repL_intsR⟩
def intKeys : List Key → Option (List Int)
  | [] => some []
  | .inl i :: ks => match intKeys ks with
    | some is => some (i :: is)
    | none => none
  | _ :: _ => none
theorem intKeys_eq : ∀ {ks : List Key} {ns : List Int}, intKeys ks = some ns → ks = ns.map Sum.inl
  | [], ns, h => by cases h; rfl
  | d :: ds, ns, h => by
    unfold intKeys at h
    split at h
    · next e => cases e
    · next i ds' e =>
      cases e
      split at h
      · next is e => cases h; rw [intKeys_eq e]; rfl
      · cases h
    · cases h
@[simp] theorem intKeys_map : ∀ ns : List Int, intKeys (ns.map Sum.inl) = some ns
  | [] => rfl
  | n :: ns => by simp [intKeys, intKeys_map ns]
def dSorted (m : Bool) : DCa := fun ds M Q => match ds with
  | [x] => match res M x with
    | .lst es => match intsL es with
      | some ns => ∀ ns' : List Int, ns'.Perm ns → ns'.Pairwise (· ≤ ·) → newL m (ns'.map .int) M Q
      | none => False
    | .dct ks _ => match intKeys ks with
      | some ns => ns.length < 64 ∧ ∀ ns' : List Int, ns'.Perm ns → ns'.Pairwise (· ≤ ·) → newL m (ns'.map .int) M Q
      | none => False
    | _ => False
  | _ => False
def rSortD : List V → Hp → VK → Prop := fun xs H Q => ∃ (a : Addr) (kvs : List (Key × V)) (ks : List Int), xs = [.ref a] ∧ Rd H a (.dK kvs) ∧ kvs.map (·.1) = ks.map Sum.inl ∧ ks.length < 64 ∧
    ∀ (ys : List Int) (p : Addr), ys.Perm ks → ys.Pairwise (· ≤ ·) → H p = none → Q (.ref p) (upd H p (.lst (ys.map V.int)))
theorem c_sorted {X : Cx} (m : Bool) (hc : X.calm = true) : QCa X (.builtin "sorted") (fun xs H Q => rSortedI X.K xs H Q ∨ rSortD xs H Q) (dSorted m) := ⟨cr_sortedI.or (call_sortedDI hc), fun G H p M s ds vs Q Q' S r h k => by
  unfold dSorted at h
  split at h
  · next x =>
    obtain ⟨v, rfl, r1⟩ := repL1 r
    split at h
    · next es e1 =>
      obtain ⟨a, us, rfl, g1, g2, g3⟩ := as_lst S r1 e1
      split at h
      · next ns en =>
        have ee := intsL_eq en
        subst ee
        have eu := repL_ints g2
        subst eu
        refine .inl ⟨a, ns, rfl, .inl (.inl g1), fun ns' q hp hw hn => newL_ok S hn repL_intsR (by rw [List.length_map] at g3 ⊢; rw [hp.length_eq]; exact g3) (h ns' hp hw) k⟩
      · exact h.elim
    · next ks fs e1 =>
      obtain ⟨a, kvs, rfl, g1, g2, g3, g4, g5⟩ := as_dct S r1 e1
      split at h
      · next ns en =>
        have ee := intKeys_eq en
        subst ee
        refine .inr ⟨a, kvs, ns, rfl, g1, g2, h.1, fun ns' q hp hw hn => newL_ok S hn repL_intsR (sz1000 (by rw [List.length_map, hp.length_eq]; omega)) (h.2 ns' hp hw) k⟩
      · exact h.elim
    · exact h.elim
  · exact h.elim⟩
/-- set(xs), fewer than 64 whole numbers -/
def rSetL (K : PySem.W.Frag) (w : World) : List V → Hp → VK → Prop := fun vs H Q => ∃ (a : Addr) (ns : List Int), vs = [.ref a] ∧ SqL K H a (ns.map V.int) ∧ ns.length < 64 ∧ ∀ p c, H p = none → c ≤ ns.length → Q (.ref p) (upd H p (SetO w p (fun j => decide (j ∈ ns)) c))
theorem sim_laid {K : PySem.W.Frag} {G H : Hp} {p : Rho} {M : Mst} {s : L2.St} {a : Addr} {o : HO} (S : Sim K G H p M s) (hn : H a = none) : Sim K G (upd H a o) p M s := by
  refine ⟨fun b u q => ?_, S.env, S.len, fun b u q => ⟨(S.mem b u q).1, (S.mem b u q).2.mono (Same.refl G) ?_ (.refl G)⟩⟩
  · rw [upd_ne (ne_of_none q (S.same.free hn))]; exact S.same b u q
  · obtain ⟨o', ho⟩ := (S.mem b u q).2.there
    exact upd_ne (ne_of_none ho hn)
end DL
namespace DL
open PySem L2
/-- a def of the module: where it stands, what it is -/
structure FnAt (K : PySem.W.Frag) (mg : Str → Option Value) (x : Str) (st : Stmt) (ps : List Str) where
  f : Addr
  fd : FuncData
  g : mg x = some (.ref f)
  F : Fun K x x st f fd
  b : Binds K fd ps []
def spLaw : DSp := fun ds M Q _ => ∃ ns : List Int, ds = [.scr ns] ∧ ns.length ≤ 63 ∧ (∀ a, M a = none) ∧ ∀ M', Q (.bl true) M'
theorem walk {l : PySem.W.OpenLaw} {q : Program} {loose : List Str} {XP : (Str → Option Value) → Heap → Prop} {YP : World → Heap → Prop} {d : DefRec} {K : Params → PySem.W.Frag} {k : Nat} (hk : k ≤ 200) (hn : l.most = some 63) (hdf : d.params.defaults = [])
    (hY : ∀ (w : World) (h : Heap), YP w h → (K w.params).In h)
    (F : ∀ (w : World) (mg : Str → Option Value) (fa : Addr) (h : Heap), (K w.params).In h → h.Ns mainGlobals mg → mg d.name = some (.ref fa) →
      ∃ fd : FuncData, (∀ (s : Shared) (u : Value), BindsTo s fd ⟨[u], []⟩ [("_law_script", u)]) ∧ ∀ base : Heap, (K w.params).In base → base.Ns mainGlobals mg →
        FnOk l.prog w (K w.params) mg base (L2.CX l.prog w) k fa fd ["_law_script"] (toSp (K w.params) spLaw)) :
    PySem.W.WalkO q loose XP YP l.row.toRowW d [] (fun f vs => PySem.call f vs) :=
  L2.walk_of (n := 63) (k := k) (x := "_law_script") (CX := fun w => L2.CX l.prog w) (sp := fun w => toSp (K w.params) spLaw) hn (by decide) hdf
    ⟨rfl, by show 1 + 300 + 3 * k + 5 < 1000; omega, by show 4 + 16 * k + 200 < 9900; omega⟩ hY F
    (fun w H a ns hl _ hS => ⟨H, [.scr ns], fun _ => none, fun d _ => d = .bl true, fun _ _ => False, Same.refl _, RepL.cons ⟨a, rfl, hS, hl⟩ rfl, fun _ _ h => (by cases h), ⟨ns, rfl, hl, fun _ => rfl, fun _ => rfl⟩,
      fun G' H' v d M' _ _ r _ e => (by subst e; exact r), fun _ _ _ _ _ _ _ _ _ _ h => h.elim⟩) fun w H s e s' z => by
    obtain ⟨a, B, H', cls, d, _, _, _, _, _, _, _, h⟩ := z
    exact h
end DL
namespace DL
open PySem L2
abbrev retE (Q : DK) : DEnds := { nx := fun _ M => Q .non M, rt := Q }
section
variable {M : Mst} {Q : DK} {a : Addr} {ds : List D} {i : Int} {d : D}
theorem atI_0 {α : Type} {x : α} {xs : List α} : atI (x :: xs) 0 = some x := by
  unfold atI ixN; simp
theorem atI_1 {α : Type} {x y : α} {xs : List α} : atI (x :: y :: xs) 1 = some y := by
  unfold atI ixN
  have : (1 : Int) < ((x :: y :: xs).length : Int) := by simp; omega
  simp only [this]; rfl
theorem atI_n {α : Type} {xs : List α} {n : Nat} : atI xs (n : Int) = xs[n]? := by
  unfold atI ixN
  by_cases h : n < xs.length
  · simp [h]
  · have : ¬ ((n : Int) < (xs.length : Int)) := by omega
    simp [this, h]
theorem atI_some {α : Type} {xs : List α} {i : Int} (h0 : 0 ≤ i) (h1 : i < xs.length) : ∃ x, atI xs i = some x ∧ x ∈ xs := by
  obtain ⟨n, rfl⟩ : ∃ n : Nat, i = n := ⟨i.toNat, by omega⟩
  rw [atI_n]
  have : n < xs.length := by omega
  exact ⟨_, List.getElem?_eq_getElem this, List.getElem_mem this⟩
theorem ix_l (h : atI ds i = some d) : dIx (.lst ds) (.int i) M Q = Q d M := by simp [dIx, dgetD, h]
theorem ix_t (h : atI ds i = some d) : dIx (.tup ds) (.int i) M Q = Q d M := by simp [dIx, dgetD, h]
theorem ix_x (h : atI ds i = some d) : dIx (.xtp ds) (.int i) M Q = Q d M := by simp [dIx, dgetD, h]
theorem ix_s {ns : List Int} {n : Int} (h : atI ns i = some n) : dIx (.scr ns) (.int i) M Q = Q (.int n) M := by simp [dIx, dgetD, h]
theorem ix_r (hm : M a = some (.lst ds)) (h : atI ds i = some d) : dIx (.ref a) (.int i) M Q = Q d M := by simp [dIx, dgetD, res, hm, h]
theorem ix_d {kvs : List (Key × D)} {y : D} {k : Key} (hm : M a = some (.dK kvs)) (hk : keyD y = some k) (h : valD kvs k = some d) : dIx (.ref a) y M Q = Q d M := by simp [dIx, dgetD, hm, hk, h]
theorem in_d {kvs : List (Key × D)} {y : D} {k : Key} {neg : Bool} (hm : M a = some (.dK kvs)) (hk : keyD y = some k) : dIn neg y (.ref a) M Q = Q (.bl (xor neg (valD kvs k).isSome)) M := by simp [dIn, dgetD, hm, hk]
theorem set_l {R : Mst → Prop} {j : Nat} (hm : M a = some (.lst ds)) (h : ixN ds.length i = some j) : dSet (.ref a) (.int i) d M R = R (put M a (.lst (ds.set j d))) := by simp [dSet, hm, h]
theorem set_d {R : Mst → Prop} {kvs : List (Key × D)} {y : D} {k : Key} (hm : M a = some (.dK kvs)) (hk : keyD y = some k) : dSet (.ref a) y d M R = (kvs.length < 100000 ∧ R (put M a (.dK (putD kvs k d)))) := by simp [dSet, hm, hk]
theorem len_l : dLen [.lst ds] M Q = Q (.int ds.length) M := by simp [dLen]
theorem len_r (hm : M a = some (.lst ds)) : dLen [.ref a] M Q = Q (.int ds.length) M := by simp [dLen, res, hm]
@[simp] theorem dInt_i {C : Int → Int → Prop} {g : Int → Int → Int} {i j : Int} : dInt C g (.int i) (.int j) M Q = (C i j ∧ Q (.int (g i j)) M) := rfl
@[simp] theorem dInt0_i {g : Int → Int → Int} {i j : Int} : dInt0 g (.int i) (.int j) M Q = Q (.int (g i j)) M := rfl
@[simp] theorem dCmpI_i {g : Int → Int → Bool} {i j : Int} : dCmpI g (.int i) (.int j) M Q = Q (.bl (g i j)) M := rfl
@[simp] theorem dAdd_i {m : Bool} {i j : Int} : dAdd m (.int i) (.int j) M Q = Q (.int (i + j)) M := rfl
@[simp] theorem dAdd_l {m : Bool} {es fs : List D} : dAdd m (.lst es) (.lst fs) M Q = (es.length + fs.length ≤ 100000 ∧ newL m (es ++ fs) M Q) := rfl
@[simp] theorem dAbs_i {i : Int} : dAbs [.int i] M Q = Q (.int (if i < 0 then -i else i)) M := rfl
@[simp] theorem dMax2_i {i j : Int} : dMax2 [.int i, .int j] M Q = Q (.int (if j > i then j else i)) M := rfl
@[simp] theorem dMin2_i {i j : Int} : dMin2 [.int i, .int j] M Q = Q (.int (if j < i then j else i)) M := rfl
@[simp] theorem len_l' : dLen [.lst ds] M Q = Q (.int ds.length) M := by simp [dLen]
@[simp] theorem len_s' {ns : List Int} : dLen [.scr ns] M Q = Q (.int ns.length) M := by simp [dLen]
@[simp] theorem gSub_eq {qo qi : DTE} {d : D} {DW : DWt} {p : Rho} {R : Rho → Mst → Prop} : gSubD qo qi d DW p M R = qo DW p M fun o M1 => qi DW p M1 fun i M2 => dSet o i d M2 fun M3 => R p M3 := rfl
end
section
variable {X : Cx} {W : WX} {pos : Pos}
theorem qs_setN (i : Nat) {x : Str} {e : Expr} {te : TE} {qe : DTE} {pos' : Pos} (hN : X.N.Nodup) (he : QE X W e te qe) (hi : X.N[i]? = some x := by rfl) (hx : Loc X.env.scope x := by first | exact .inl rfl | exact .inr rfl)
    (hs : swapsWith e (some (.Name x pos')) pos.line X.env = pure false := by rfl) (hf : X.fn x = true ∨ X.env.scope.names.lookup x = some .local := by first | exact .inl rfl | exact .inr rfl) :
    QS X W (.Assign [.Name x pos'] e pos) (tAsg te (gName i)) (qAsg qe (gNameD i)) := qs_set (ps_set hN hi hx he.pe hs hf) he.rf
theorem qs_augN (i : Nat) {x : Str} {e : Expr} {te : TE} {qe : DTE} {pos' : Pos} (hN : X.N.Nodup) (he : QE X W e te qe) (hi : X.N[i]? = some x := by rfl) (hx : Loc X.env.scope x := by first | exact .inl rfl | exact .inr rfl)
    (hf : X.fn x = true ∨ X.env.scope.names.lookup x = some .local := by first | exact .inl rfl | exact .inr rfl) : QS X W (.AugAssign (.Name x pos') .Add e pos) (tAug i te rAugX) (qAug i qe dAug) :=
  qs_augX (ps_aug hN hi hx he.pe ip_any hf) he.rf ref_aug
theorem qs_parN (i j : Nat) {x y : Str} {a b : Expr} {ta : TA} {qa : DTA} {px py pt : Pos} {kt k2 pt2} (hc : X.calm = true) (hN : X.N.Nodup) (ha : QA X W [a, b] ta qa) (hi : X.N[i]? = some x := by rfl) (hj : X.N[j]? = some y := by rfl) (hij : i ≠ j := by decide)
    (hx : X.env.scope.names.lookup x = some .local := by rfl) (hy : X.env.scope.names.lookup y = some .local := by rfl)
    (hw : swappedStores [.Tuple [.Name x px, .Name y py] kt pt] (.Tuple [a, b] k2 pt2) X.env = pure (some [x, y]) := by rfl)
    (hs : swapsWithSole [.Tuple [.Name x px, .Name y py] kt pt] (.Tuple [a, b] k2 pt2) pos.line X.env = pure false := by rfl) :
    QS X W (.Assign [.Tuple [.Name x px, .Name y py] kt pt] (.Tuple [a, b] k2 pt2) pos) (tPar i j ta) (qPar i j qa) := qs_par (ps_par hc hN hi hj hij hx hy ha.pe hw hs) ha.rf
theorem qg_nm (i : Nat) {x : Str} {ix : List Nat} (hN : X.N.Nodup) (hi : X.N[i]? = some x := by rfl) (hx : Loc X.env.scope x := by first | exact .inl rfl | exact .inr rfl)
    (hf : X.fn x = true ∨ X.env.scope.names.lookup x = some .local := by first | exact .inl rfl | exact .inr rfl) (hm : i ∈ ix := by decide) : QGi X W ix (.Name x pos) (gName i) (gNameD i) := qg_name (pg_name hN hi hx hf) hm
end
def Sub (M M' : Mst) : Prop := ∀ a o, M a = some o → M' a = some o
theorem Sub.refl (M : Mst) : Sub M M := fun _ _ h => h
theorem Sub.trans {M M1 M2 : Mst} (h : Sub M M1) (g : Sub M1 M2) : Sub M M2 := fun a o e => g a o (h a o e)
theorem Sub.put {M M' : Mst} {a : Addr} {o : MO} (h : Sub M M') (hn : M a = none) : Sub M (put M' a o) := fun b u e => by
  rw [put_ne (fun z => by rw [z, hn] at e; cases e)]; exact h b u e
def upSp (p : DSp) : DSp := fun ds M Q E => ∃ Q0 E0, p ds M Q0 E0 ∧ (∀ d M' M'', Sub M'' M' → Q0 d M'' → Q d M') ∧ ∀ x M' M'', Sub M'' M' → E0 x M'' → E x M'
theorem imp_up {K : PySem.W.Frag} {p : DSp} {vs : List V} {H : Hp} {Q : VK} {E : XK} (h : toSp K p vs H Q E) : toSp K (upSp p) vs H Q E := by
  obtain ⟨G, ds, M, Qd, Ed, e, r, hm, hp, kq, ke⟩ := h
  have ok : ∀ {G' H' M' M''}, Sub M'' M' → MemOk K G' H' M' → MemOk K G' H' M'' := fun hs hm a o e => hm a o (hs a o e)
  exact ⟨G, ds, M, fun d M' => ∃ M'', Sub M'' M' ∧ Qd d M'', fun x M' => ∃ M'', Sub M'' M' ∧ Ed x M'', e, r, hm, ⟨Qd, Ed, hp, fun d M' M'' hs q => ⟨M'', hs, q⟩, fun x M' M'' hs q => ⟨M'', hs, q⟩⟩,
    fun G' H' v d M' e1 e2 r1 hm1 ⟨M'', hs, q⟩ => kq G' H' v d M'' e1 e2 r1 (ok hs hm1) q, fun G' H' x cls dx M' e1 e2 r1 hm1 ⟨M'', hs, q⟩ => ke G' H' x cls dx M'' e1 e2 r1 (ok hs hm1) q⟩
def canE (K : PySem.W.Frag) (W : WX) (q : DTE) : TE := fun s H Q' => ∃ DW G p M Q, WLink K G DW W ∧ Sim K G H p M s ∧ q DW p M Q ∧ ∀ G' H' M' d v, Same G G' → Sim K G' H' p M' s → Rep K G' d v → Q d M' → Q' v H'
def canT (K : PySem.W.Frag) (W : WX) (q : DTT) : TT := fun s H Q' => ∃ DW G p M Q, WLink K G DW W ∧ Sim K G H p M s ∧ q DW p M Q ∧ ∀ G' H' M' b, Same G G' → Sim K G' H' p M' s → Q b M' → Q' b H'
def canG (K : PySem.W.Frag) (W : WX) (ix : List Nat) (q : DTG) : TG := fun v s H Q' => ∃ DW G p M d Q, WLink K G DW W ∧ Sim K G H p M s ∧ Rep K G d v ∧ q d DW p M Q ∧ ∀ G' H' p' M' s', Same G G' → Sim K G' H' p' M' s' → Only ix s s' → Q p' M' → Q' s' H'
section
variable {X : Cx} {W : WX} {elt tg iter : Expr} {ifs : List Expr} {scope : Scope} {own : List (Str × Nat)} {pos : Pos} {wi : TI} {qi : DTI} {qg : DTG} {qt : DTT} {qe : DTE}
theorem QE.can {e : Expr} (h : ∃ t, QE X W e t qe) : QE X W e (canE X.K W qe) qe := by
  obtain ⟨t, h⟩ := h
  exact ⟨⟨fun pins s σ H Q I ⟨DW, G, p, M, Qd, hw, S, hq, k⟩ => h.pe.run pins s σ H Q I (h.rf DW G H p M σ Qd Q hw S hq k)⟩, fun DW G H p M s Q Q' hw S hq k => ⟨DW, G, p, M, Q, hw, S, hq, k⟩⟩
theorem QTs.can {es : List Expr} (h : ∃ t, QTs X W es t qt) : QTs X W es (canT X.K W qt) qt := by
  obtain ⟨t, h⟩ := h
  exact ⟨⟨fun pins s σ H Q I ⟨DW, G, p, M, Qd, hw, S, hq, k⟩ => h.pe.run pins s σ H Q I (h.rf DW G H p M σ Qd Q hw S hq k)⟩, fun DW G H p M s Q Q' hw S hq k => ⟨DW, G, p, M, Q, hw, S, hq, k⟩⟩
theorem QGi.can {ix : List Nat} {e : Expr} (h : ∃ t, QGi X W ix e t qg) : QGi X W ix e (canG X.K W ix qg) qg := by
  obtain ⟨t, h⟩ := h
  exact ⟨⟨fun pins s σ H v u Q I r ⟨DW, G, p, M, d, Qd, hw, S, rd, hq, k⟩ => h.pe.run pins s σ H v u Q I r (h.rf DW G H p M σ d v Qd Q hw S rd hq k)⟩, fun DW G H p M s d v Q Q' hw S rd hq k => ⟨DW, G, p, M, d, Q, hw, S, rd, hq, k⟩⟩
theorem q_lcX (m : Bool) (hc : X.calm = true) (hN : X.N.Nodup) (hi : QI X W tg iter wi qi) (ok : BlkOk X.N X.env.scope scope own)
    (hg : ∀ (s : Shared) (H : Hp) (C : Addr) (cl : List (Str × Addr)) (fp : List Addr), ∃ t, QGi (X.blk s H scope (compEnvC scope cl C X.env) fp) W0 (own.map (·.2)) tg t qg)
    (ht : ∀ (s : Shared) (H : Hp) (C : Addr) (cl : List (Str × Addr)) (fp : List Addr), ∃ t, QTs (X.blk s H scope (compEnvC scope cl C X.env) fp) W0 ifs t qt)
    (he : ∀ (s : Shared) (H : Hp) (C : Addr) (cl : List (Str × Addr)) (fp : List Addr), ∃ t, QE (X.blk s H scope (compEnvC scope cl C X.env) fp) W0 elt t qe) (hs : ∀ x, foldedSetIterable iter X.env x = pure x := by intro _; rfl) :
    QE X W (.ListComp elt [⟨tg, iter, ifs, 0⟩] scope pos) (tLc wi (canG X.K W0 (own.map (·.2)) qg) (canT X.K W0 qt) (canE X.K W0 qe) (own.map (·.2))) (qLc m qi qg qt qe (own.map (·.2))) :=
  q_lc m hc hN hi ok (fun s H C cl fp => QGi.can (hg s H C cl fp)) (fun s H C cl fp => QTs.can (ht s H C cl fp)) (fun s H C cl fp => QE.can (he s H C cl fp)) hs
theorem qs_setLcX (m : Bool) (i : Nat) {y : Str} {py spos : Pos} (hc : X.calm = true) (hN : X.N.Nodup) (hi : QI X W tg iter wi qi) (ok : BlkOk X.N X.env.scope scope own)
    (hg : ∀ (s : Shared) (H : Hp) (C : Addr) (cl : List (Str × Addr)) (fp : List Addr), ∃ t, QGi (X.blk s H scope (compEnvC scope cl C X.env) fp) W0 (own.map (·.2)) tg t qg)
    (ht : ∀ (s : Shared) (H : Hp) (C : Addr) (cl : List (Str × Addr)) (fp : List Addr), ∃ t, QTs (X.blk s H scope (compEnvC scope cl C X.env) fp) W0 ifs t qt)
    (he : ∀ (s : Shared) (H : Hp) (C : Addr) (cl : List (Str × Addr)) (fp : List Addr), ∃ t, QE (X.blk s H scope (compEnvC scope cl C X.env) fp) W0 elt t qe)
    (hy : X.N[i]? = some y := by rfl) (hyl : X.env.scope.names.lookup y = some .local := by rfl)
    (hsw : swapsWith (.ListComp elt [⟨tg, iter, ifs, 0⟩] scope pos) (some (.Name y py)) spos.line X.env = pure true := by exact sw_true rfl rfl rfl (by decide +kernel)) (hs : ∀ x, foldedSetIterable iter X.env x = pure x := by intro _; rfl) :
    QS X W (.Assign [.Name y py] (.ListComp elt [⟨tg, iter, ifs, 0⟩] scope pos) spos) (tAsg (tLc wi (canG X.K W0 (own.map (·.2)) qg) (canT X.K W0 qt) (canE X.K W0 qe) (own.map (·.2))) (gName i)) (qAsg (qLc m qi qg qt qe (own.map (·.2))) (gNameD i)) :=
  qs_setLc m hc hN hy hyl hsw hi ok (fun s H C cl fp => QGi.can (hg s H C cl fp)) (fun s H C cl fp => QTs.can (ht s H C cl fp)) (fun s H C cl fp => QE.can (he s H C cl fp)) hs
end
def spTakeL : DSp := fun ds M Q _ => ∃ (b : Addr) (g m n : Int), ds = [.ref b, .int n] ∧ M b = some (.lst [.int g, .int m]) ∧ 0 ≤ g ∧ 0 ≤ m ∧ m < 2147483648 ∧ 0 < n ∧ n < 1073741824 ∧
  ∀ g' m' r : Int, 0 ≤ g' → 0 ≤ m' → m' < 2147483648 → 0 ≤ r → r < n → Q (.int r) (put M b (.lst [.int g', .int m']))
def spTake : DSp := fun ds M Q _ => ∃ (b : Addr) (n : Int), ds = [.ref b, .int n] ∧ M b = some .bag ∧ 0 < n ∧ n < 1073741824 ∧ ∀ r : Int, 0 ≤ r → r < n → Q (.int r) M
def spBagL : DSp := fun ds M Q _ => ∃ (ns : List Int) (i : Int), ds = [.scr ns, .int i] ∧ 0 ≤ i ∧ i < 10000 ∧ ∀ (p : Addr) (g m : Int), M p = none → 0 ≤ g → 0 ≤ m → m < 2147483648 → Q (.ref p) (put M p (.lst [.int g, .int m]))
def spBag : DSp := fun ds M Q _ => ∃ (ns : List Int) (i : Int), ds = [.scr ns, .int i] ∧ 0 ≤ i ∧ i < 10000 ∧ ∀ p : Addr, M p = none → Q (.ref p) (put M p .bag)
theorem cpow_small {i : Int} {j : Nat} (h0 : 0 ≤ i) (h1 : i < 18446744073709551616) (hj : j ≤ 1000000) : CPow i (j : Int) := by
  refine ⟨by omega, by omega, ?_⟩
  have e : (2 : Nat) ^ 64 = 18446744073709551616 := by decide
  omega
theorem mem_bag {K : PySem.W.Frag} {G H : Hp} {M : Mst} {b : Addr} {g m : Int} (hm : MemOk K G H M) (h : M b = some (.lst [.int g, .int m])) (h0 : 0 ≤ g) (h1 : 0 ≤ m) (h2 : m < 2147483648) : MemOk K G H (put M b .bag) := fun a o e => by
  by_cases z : a = b
  · subst z
    rw [put_same] at e; cases e
    obtain ⟨gn, vs, q1, ⟨v, r, rfl, q2, ⟨u, r2, rfl, q3, q4⟩⟩, _⟩ := hm _ _ h
    cases q2; cases q3; cases q4
    exact ⟨gn, g, m, q1, h0, h1, h2⟩
  · rw [put_ne z] at e; exact hm a o e
theorem bag_mem {K : PySem.W.Frag} {G H : Hp} {M : Mst} {b : Addr} (hm : MemOk K G H M) (h : M b = some .bag) : ∃ g m : Int, 0 ≤ g ∧ 0 ≤ m ∧ m < 2147483648 ∧ MemOk K G H (put M b (.lst [.int g, .int m])) := by
  obtain ⟨gn, g, m, q1, q2, q3, q4⟩ := hm _ _ h
  refine ⟨g, m, q2, q3, q4, fun a o e => ?_⟩
  by_cases z : a = b
  · subst z
    rw [put_same] at e; cases e
    exact ⟨gn, _, q1, ⟨_, _, rfl, rfl, _, _, rfl, rfl, rfl⟩, sz1000 (by simp)⟩
  · rw [put_ne z] at e; exact hm a o e
theorem imp_take {K : PySem.W.Frag} {vs : List V} {H : Hp} {Q : VK} {E : XK} (h : toSp K spTake vs H Q E) : toSp K spTakeL vs H Q E := by
  obtain ⟨G, ds, M, Qd, Ed, e, r, hm, ⟨b, n, rfl, hb, h0, h1, k⟩, kq, ke⟩ := h
  obtain ⟨g, m, g1, g2, g3, hm'⟩ := bag_mem hm hb
  refine ⟨G, _, _, fun d M' => ∃ g' m' : Int, M' b = some (.lst [.int g', .int m']) ∧ 0 ≤ g' ∧ 0 ≤ m' ∧ m' < 2147483648 ∧ Qd d (put M' b .bag), Ed, e, r, hm', ⟨b, g, m, n, rfl, put_same, g1, g2, g3, h0, h1, fun g' m' r a1 a2 a3 a4 a5 => ?_⟩, fun G' H' v d M' e1 e2 r1 hm1 q => ?_, fun G' H' x cls dx M' e1 e2 r1 hm1 q => ke G' H' x cls dx M' e1 e2 r1 hm1 q⟩
  · refine ⟨g', m', put_same, a1, a2, a3, ?_⟩
    rw [put_put, put_put, put_id hb]
    exact k r a4 a5
  · obtain ⟨g', m', q0, q1, q2, q3, q4⟩ := q
    exact kq G' H' v d _ e1 e2 r1 (mem_bag hm1 q0 q1 q2 q3) q4
theorem imp_bag {K : PySem.W.Frag} {vs : List V} {H : Hp} {Q : VK} {E : XK} (h : toSp K spBag vs H Q E) : toSp K spBagL vs H Q E := by
  obtain ⟨G, ds, M, Qd, Ed, e, r, hm, ⟨ns, i, rfl, h0, h1, k⟩, kq, ke⟩ := h
  refine ⟨G, _, _, fun d M' => ∃ (b : Addr) (g' m' : Int), d = .ref b ∧ M' b = some (.lst [.int g', .int m']) ∧ 0 ≤ g' ∧ 0 ≤ m' ∧ m' < 2147483648 ∧ Qd d (put M' b .bag), Ed, e, r, hm, ⟨ns, i, rfl, h0, h1, fun p g m hp a1 a2 a3 => ⟨p, g, m, rfl, put_same, a1, a2, a3, ?_⟩⟩, fun G' H' v d M' e1 e2 r1 hm1 q => ?_, fun G' H' x cls dx M' e1 e2 r1 hm1 q => ke G' H' x cls dx M' e1 e2 r1 hm1 q⟩
  · rw [put_put]
    exact k p hp
  · obtain ⟨b, g', m', rfl, q0, q1, q2, q3, q4⟩ := q
    exact kq G' H' v _ _ e1 e2 r1 (mem_bag hm1 q0 q1 q2 q3) q4
end DL
namespace DL
open PySem L2
def qTakeR : DTS :=
  (qSeq (qIfS (qTB (qOp (dCmpI fun i j => decide (j < i)) (qOp dIx (qVar 0) (qC (.int 0))) (qC (.int 0))))
  (qSeq (qAsg (qOp (dInt (fun _ j => 0 < j) fun i j => i % j) (qOp dIx (qVar 0) (qC (.int 0))) (qVar 1)) (gNameD 2))
  (qSeq (qAsg (qOp (dInt CDiv fun i j => i / j) (qOp dIx (qVar 0) (qC (.int 0))) (qVar 1)) (gSubD (qVar 0) (qC (.int 0))))
  (qRet (qVar 2))))
  qNext)
  (qSeq (qAsg (qOp (dInt (fun _ j => 0 < j) fun i j => i % j) (qOp (dAdd false) (qOp (dInt CMul fun i j => i * j) (qOp dIx (qVar 0) (qC (.int 1))) (qC (.int 48271))) (qC (.int 11))) (qC (.int 2147483647))) (gSubD (qVar 0) (qC (.int 1))))
  (qRet (qOp (dInt (fun _ j => 0 < j) fun i j => i % j) (qOp (dInt (fun _ j => 0 < j) fun i j => i % j) (qOp (dInt CPow fun i j => i ^ j.toNat) (qOp (dInt CDiv fun i j => i / j) (qOp dIx (qVar 0) (qC (.int 1))) (qC (.int 8))) (qC (.int 3))) (qC (.int 2147483629))) (qVar 1)))))
def qBagR : DTS :=
  (qSeq (qAsg (qC (.int 0)) (gNameD 2))
  (qSeq (qIfS (qTB (qOp (dCmpI fun i j => decide (j < i)) (qCB dLen (qCons (qVar 0) qNil)) (qC (.int 0))))
  (qAsg (qOp dIx (qVar 0) (qOp (dInt (fun _ j => 0 < j) fun i j => i % j) (qVar 1) (qCB dLen (qCons (qVar 0) qNil)))) (gNameD 2))
  qNext)
  (qSeq (qAsg (qC (.int 0)) (gNameD 3))
  (qSeq (qIfS (qAnd (qTB (qOp (dCmpI fun i j => decide (j ≤ i)) (qCB dAbs (qCons (qVar 2) qNil)) (qOp (dInt CPow fun i j => i ^ j.toNat) (qC (.int 10)) (qC (.int 18))))) (qTB (qOp (dCmpI fun i j => decide (i < j)) (qVar 1) (qCB dLen (qCons (qVar 0) qNil)))))
  (qAsg (qCB dAbs (qCons (qVar 2) qNil)) (gNameD 3))
  qNext)
  (qSeq (qAsg (qTup (qCons (qC (.int 2147483629)) (qCons (qC (.int 2147483587)) (qCons (qC (.int 2147483579)) (qCons (qC (.int 2147483563)) (qCons (qC (.int 2147483549)) (qCons (qC (.int 2147483543)) (qCons (qC (.int 2147483497)) (qCons (qC (.int 2147483489)) qNil))))))))) (gNameD 4))
  (qRet (qLst true (qCons (qVar 3) (qCons (qOp (dInt (fun _ j => 0 < j) fun i j => i % j) (qOp (dInt CPow fun i j => i ^ j.toNat) (qOp (dAdd false) (qOp (dAdd false) (qOp (dInt (fun _ j => 0 < j) fun i j => i % j) (qVar 2) (qC (.int 2147483647))) (qOp (dInt CMul fun i j => i * j) (qC (.int 104729)) (qVar 1))) (qC (.int 7))) (qC (.int 5))) (qOp dIx (qVar 4) (qOp (dInt (fun _ j => 0 < j) fun i j => i % j) (qVar 1) (qC (.int 8))))) qNil)))))))))
theorem take_ok (ds : List D) (M : Mst) (Q : DK) (Ed : DX → Mst → Prop) (h : upSp spTakeL ds M Q Ed) : qTakeR (fun x _ M => Ed x M) (retE Q) (startD ["_law_bag_here", "_law_many", "_law_digit"] ds) M := by
  obtain ⟨Q0, E0, ⟨b, g, m, n, rfl, hb, g0, m0, m1, n0, n1, k0⟩, kq, _⟩ := h
  have k : ∀ g' m' r : Int, 0 ≤ g' → 0 ≤ m' → m' < 2147483648 → 0 ≤ r → r < n → Q (.int r) (put M b (.lst [.int g', .int m'])) := fun g' m' r a1 a2 a3 a4 a5 => kq _ _ _ (Sub.refl _) (k0 g' m' r a1 a2 a3 a4 a5)
  have ix0 : ∀ (g m : Int) (M : Mst) (Q : DK), M b = some (.lst [.int g, .int m]) → dIx (.ref b) (.int 0) M Q = Q (.int g) M := fun g m M Q h => ix_r h atI_0
  have ix1 : ∀ (g m : Int) (M : Mst) (Q : DK), M b = some (.lst [.int g, .int m]) → dIx (.ref b) (.int 1) M Q = Q (.int m) M := fun g m M Q h => ix_r h atI_1
  have st0 : ∀ (g m : Int) (M : Mst) (v : D) (R : Mst → Prop), M b = some (.lst [.int g, .int m]) → dSet (.ref b) (.int 0) v M R = R (put M b (.lst [v, .int m])) := fun g m M v R h => set_l h (j := 0) rfl
  have st1 : ∀ (g m : Int) (M : Mst) (v : D) (R : Mst → Prop), M b = some (.lst [.int g, .int m]) → dSet (.ref b) (.int 1) v M R = R (put M b (.lst [.int g, v])) := fun g m M v R h => set_l h (j := 1) rfl
  simp only [qTakeR, startD, qSeq, qIfS, qTB, qOp, qVar, qC, qAsg, gNameD, gSub_eq, qRet, qNext, retE]
  simp
  rw [ix0 g m M _ hb]
  simp [dCmpI]
  split
  · rw [ix0 g m M _ hb]
    simp [dInt, n0]
    rw [ix0 g m M _ hb]
    simp [CDiv, n0, n1]
    rw [st0 g m M _ _ hb]
    exact k _ _ _ (Int.ediv_nonneg g0 (by omega)) m0 m1 (Int.emod_nonneg _ (by omega)) (Int.emod_lt_of_pos _ n0)
  · have c1 : CMul m 48271 := .inr ⟨by decide, by decide⟩
    rw [ix1 g m M _ hb]
    simp [dInt, dAdd, c1]
    rw [st1 g m M _ _ hb]
    have z0 := Int.emod_nonneg (m * 48271 + 11) (show (2147483647 : Int) ≠ 0 by decide)
    have z1 := Int.emod_lt_of_pos (m * 48271 + 11) (show (0 : Int) < 2147483647 by decide)
    generalize (m * 48271 + 11) % 2147483647 = m2 at z0 z1 ⊢
    rw [ix1 g m2 _ _ put_same]
    have c2 : CDiv m2 8 := ⟨by decide, by decide⟩
    have c3 : CPow (m2 / 8) 3 := cpow_small (j := 3) (by omega) (by omega) (by decide)
    simp [c2, c3, n0]
    exact k _ _ _ g0 z0 (by omega) (Int.emod_nonneg _ (by omega)) (Int.emod_lt_of_pos _ n0)
def bagTail : DTS :=
  (qSeq (qAsg (qTup (qCons (qC (.int 2147483629)) (qCons (qC (.int 2147483587)) (qCons (qC (.int 2147483579)) (qCons (qC (.int 2147483563)) (qCons (qC (.int 2147483549)) (qCons (qC (.int 2147483543)) (qCons (qC (.int 2147483497)) (qCons (qC (.int 2147483489)) qNil))))))))) (gNameD 4))
  (qRet (qLst true (qCons (qVar 3) (qCons (qOp (dInt (fun _ j => 0 < j) fun i j => i % j) (qOp (dInt CPow fun i j => i ^ j.toNat) (qOp (dAdd false) (qOp (dAdd false) (qOp (dInt (fun _ j => 0 < j) fun i j => i % j) (qVar 2) (qC (.int 2147483647))) (qOp (dInt CMul fun i j => i * j) (qC (.int 104729)) (qVar 1))) (qC (.int 7))) (qC (.int 5))) (qOp dIx (qVar 4) (qOp (dInt (fun _ j => 0 < j) fun i j => i % j) (qVar 1) (qC (.int 8))))) qNil)))))
theorem bag_end (c gr i : Int) (ns : List Int) (M : Mst) (Q : DK) (Ed : DX → Mst → Prop) (i0 : 0 ≤ i) (i1 : i < 10000) (g0 : 0 ≤ gr) (k : ∀ (p : Addr) (g m : Int), M p = none → 0 ≤ g → 0 ≤ m → m < 2147483648 → Q (.ref p) (put M p (.lst [.int g, .int m]))) (x5 : Option D) :
    bagTail (fun x _ M => Ed x M) (retE Q) [some (.scr ns), some (.int i), some (.int c), some (.int gr), x5] M := by
  simp only [bagTail, qSeq, qIfS, qTB, qOp, qVar, qC, qAsg, gNameD, qRet, qTup, qLst, qCons, qNil, retE, List.set_cons_zero, List.set_cons_succ, List.getElem?_cons_zero, List.getElem?_cons_succ, dInt_i, dAdd_i, newL_t]
  have z0 := Int.emod_nonneg c (show (2147483647 : Int) ≠ 0 by decide)
  have z1 := Int.emod_lt_of_pos c (show (0 : Int) < 2147483647 by decide)
  generalize c % 2147483647 = c2 at z0 z1 ⊢
  refine ⟨by simp, by decide, .inl ⟨by decide, by decide⟩, cpow_small (j := 5) (by omega) (by omega) (by decide), by decide, ?_⟩
  generalize (c2 + 104729 * i + 7) ^ Int.toNat 5 = big
  obtain ⟨x, hx, hm⟩ := atI_some (xs := [D.int 2147483629, .int 2147483587, .int 2147483579, .int 2147483563, .int 2147483549, .int 2147483543, .int 2147483497, .int 2147483489]) (i := i % 8) (Int.emod_nonneg _ (by decide)) (Int.emod_lt_of_pos _ (by decide))
  rw [ix_t hx]
  have : ∃ q : Int, x = .int q ∧ 0 < q ∧ q < 2147483648 := by
    simp only [List.mem_cons, List.not_mem_nil, or_false] at hm
    rcases hm with h | h | h | h | h | h | h | h <;> exact ⟨_, h, by decide, by decide⟩
  obtain ⟨q, rfl, q0, q1⟩ := this
  refine ⟨q0, by simp, fun p hp => k p _ _ hp g0 (Int.emod_nonneg _ (by omega)) ?_⟩
  have := Int.emod_lt_of_pos big q0
  show big % q < _
  omega
def bagMid (a b : Int) : DTS := (qSeq (qAsg (qC (.int 0)) (gNameD 3))
  (qSeq (qIfS (qAnd (qTB (qOp (dCmpI fun i j => decide (j ≤ i)) (qCB dAbs (qCons (qVar 2) qNil)) (qOp (dInt CPow fun i j => i ^ j.toNat) (qC (.int a)) (qC (.int b))))) (qTB (qOp (dCmpI fun i j => decide (i < j)) (qVar 1) (qCB dLen (qCons (qVar 0) qNil)))))
  (qAsg (qCB dAbs (qCons (qVar 2) qNil)) (gNameD 3))
  qNext) bagTail))
theorem set3_ (a b c d : D) (x : Int) : [some a, some b, some (.int x), some c, none].set 3 (some d) = [some a, some b, some (.int x), some d, none] := rfl
theorem abs_set (DW : DWt) (DE : DEnds) (a b c d : D) (x : Int) (M : Mst) : qAsg (qCB dAbs (qCons (qVar 2) qNil)) (gNameD 3) DW DE [some a, some b, some (.int x), some c, none] M = DE.nx [some a, some b, some (.int x), some (.int (if x < 0 then -x else x)), none] M := by
  unfold qAsg qCB qCons qNil gNameD qVar
  simp only [List.getElem?_cons_zero, List.getElem?_cons_succ]
  rw [dAbs_i, set3_]
theorem bag_mid (ns : List Int) (i : Int) (M : Mst) (Q : DK) (Ed : DX → Mst → Prop) (i0 : 0 ≤ i) (i1 : i < 10000) (k : ∀ (p : Addr) (g m : Int), M p = none → 0 ≤ g → 0 ≤ m → m < 2147483648 → Q (.ref p) (put M p (.lst [.int g, .int m])))
    (a b : Int) (hab : CPow a b) (c : Int) : bagMid a b (fun x _ M => Ed x M) (retE Q) [some (.scr ns), some (.int i), some (.int c), none, none] M := by
  simp only [bagMid, qSeq, qAsg, qC, gNameD, List.set_cons_zero, List.set_cons_succ]
  simp only [qIfS, qAnd, qTB, qOp]
  simp only [qCB, qCons, qVar, List.getElem?_cons_zero, List.getElem?_cons_succ]
  simp only [qNil, qC, dAbs_i, dInt_i, dCmpI_i, len_s', qNext]
  have ab : 0 ≤ if c < 0 then -c else c := by split <;> omega
  refine ⟨hab, ?_⟩
  have no : bagTail (fun x _ M => Ed x M) (retE Q) [some (.scr ns), some (.int i), some (.int c), some (.int 0), none] M := bag_end c 0 i ns M Q Ed i0 i1 (by omega) k none
  have yes : ∀ g : Int, 0 ≤ g → bagTail (fun x _ M => Ed x M) (retE Q) [some (.scr ns), some (.int i), some (.int c), some (.int g), none] M := fun g hg => bag_end c g i ns M Q Ed i0 i1 hg k none
  generalize bagTail = tail at no yes ⊢
  have y2 := yes _ ab
  by_cases h1 : decide (a ^ b.toNat ≤ if c < 0 then -c else c) = true
  · rw [if_pos h1]
    by_cases h2 : decide (i < (ns.length : Int)) = true
    · rw [if_pos h2]
      rw [abs_set _ _ _ _ _ .non]; exact y2
    · rw [if_neg h2]; exact no
  · rw [if_neg h1, if_neg Bool.false_ne_true]; exact no
theorem bag_ok (ds : List D) (M : Mst) (Q : DK) (Ed : DX → Mst → Prop) (h : upSp spBagL ds M Q Ed) : qBagR (fun x _ M => Ed x M) (retE Q) (startD ["_law_script", "_law_at", "_law_cell", "_law_great", "_law_primes"] ds) M := by
  obtain ⟨Q0, E0, ⟨ns, i, rfl, i0, i1, k0⟩, kq, _⟩ := h
  have k : ∀ (p : Addr) (g m : Int), M p = none → 0 ≤ g → 0 ≤ m → m < 2147483648 → Q (.ref p) (put M p (.lst [.int g, .int m])) := fun p g m a1 a2 a3 a4 => kq _ _ _ (Sub.refl _) (k0 p g m a1 a2 a3 a4)
  have part := bag_mid ns i M Q Ed i0 i1 k 10 18 (cpow_small (j := 18) (by omega) (by omega) (by omega))
  show qSeq (qAsg (qC (.int 0)) (gNameD 2)) (qSeq (qIfS (qTB (qOp (dCmpI fun i j => decide (j < i)) (qCB dLen (qCons (qVar 0) qNil)) (qC (.int 0))))
  (qAsg (qOp dIx (qVar 0) (qOp (dInt (fun _ j => 0 < j) fun i j => i % j) (qVar 1) (qCB dLen (qCons (qVar 0) qNil)))) (gNameD 2))
  qNext) (bagMid 10 18)) _ _ [some (.scr ns), some (.int i), none, none, none] M
  generalize bagMid 10 18 = mid at part ⊢
  by_cases h : ns.length = 0
  · simp only [qSeq, qIfS, qTB, qOp, qVar, qC, qAsg, gNameD, qCB, qCons, qNil, qNext, List.set_cons_zero, List.set_cons_succ, List.getElem?_cons_zero, List.getElem?_cons_succ, dCmpI_i, len_s']
    rw [if_neg (by simp [h])]
    exact part 0
  · have hp : 0 < ns.length := Nat.pos_of_ne_zero h
    simp only [qSeq, qIfS, qTB, qOp, qVar, qC, qAsg, gNameD, qCB, qCons, qNil, qNext, List.set_cons_zero, List.set_cons_succ, List.getElem?_cons_zero, List.getElem?_cons_succ, dCmpI_i, dInt_i, len_s']
    rw [if_pos (by simpa using hp)]
    obtain ⟨x, hx, _⟩ := atI_some (xs := ns) (i := i % (ns.length : Int)) (Int.emod_nonneg _ (by omega)) (Int.emod_lt_of_pos _ (by omega))
    rw [ix_s hx]
    exact ⟨by omega, part x⟩
end DL
namespace DL
open PySem L2
inductive All2 {α β : Type} (P : α → β → Prop) : List α → List β → Prop
  | nil : All2 P [] []
  | cons {a b as bs} : P a b → All2 P as bs → All2 P (a :: as) (b :: bs)
theorem All2.length {α β : Type} {P : α → β → Prop} {as : List α} {bs : List β} (h : All2 P as bs) : bs.length = as.length := by
  induction h with
  | nil => rfl
  | cons _ _ ih => simp [ih]
theorem All2.eq_map {α β : Type} {f : α → β} {as : List α} {bs : List β} (h : All2 (fun a b => b = f a) as bs) : bs = as.map f := by
  induction h with
  | nil => rfl
  | cons h _ ih => rw [h, ih]; rfl
theorem All2.get {α β : Type} {P : α → β → Prop} {as : List α} {bs : List β} (h : All2 P as bs) : ∀ (i : Nat) (a : α), as[i]? = some a → ∃ b, bs[i]? = some b ∧ P a b := by
  induction h with
  | nil => intro i a e; simp at e
  | cons h _ ih =>
    intro i a e
    cases i with
    | zero => simp at e; subst e; exact ⟨_, rfl, h⟩
    | succ i => simp at e; obtain ⟨b, h1, h2⟩ := ih i a e; exact ⟨b, by simpa using h1, h2⟩
theorem compL_rel {m : Bool} {Sty : Mst → Prop} {g : DTG} {tt : DTT} {te : DTE} {ix : List Nat} {a : Addr} {p : Rho} {Q : DK} {M : Mst} (hm : M a = none) (P : D → Option D → Prop) (hS : ∀ acc, Sty (put M a (.lst acc))) :
    ∀ (ds acc : List D), acc.length + ds.length ≤ 100000 →
      (∀ d ∈ ds, ∀ (acc : List D) (R : Option D → Mst → Prop), (∀ o, P d o → R o (put M a (.lst acc))) → g d DW0 (wipeD p ix) (put M a (.lst acc)) fun p2 M2 => tt DW0 p2 M2 fun b M3 => if b = true then te DW0 p2 M3 fun y M4 => R (some y) M4 else R none M3) →
      (∀ os : List (Option D), All2 P ds os → if m = true then Q (.ref a) (put M a (.lst (acc ++ os.filterMap id))) else Q (.lst (acc ++ os.filterMap id)) M) → compL m Sty g tt te ix a p Q ds (put M a (.lst acc))
  | [], acc, _, _, fin => by
    have := fin [] .nil
    refine ⟨hS acc, ?_⟩
    rw [put_same]
    simp only [List.filterMap_nil, List.append_nil] at this
    cases m with
    | true => exact this
    | false =>
      rw [if_neg Bool.false_ne_true] at this
      show (if false = true then Q (.ref a) (put M a (.lst acc)) else Q (.lst acc) (del (put M a (.lst acc)) a))
      rw [if_neg Bool.false_ne_true, del_put hm]; exact this
  | d :: ds, acc, hl, step, fin => by
    refine ⟨hS acc, ?_⟩
    simp only [List.length_cons] at hl
    have ih := compL_rel (m := m) (Sty := Sty) (g := g) (tt := tt) (te := te) (ix := ix) (p := p) (Q := Q) hm P hS ds
    refine step d (List.mem_cons_self ..) acc (fun o M' => match o with
      | some y => (match M' a with
        | some (.lst acc) => acc.length < 100000 ∧ compL m Sty g tt te ix a p Q ds (put M' a (.lst (acc ++ [y])))
        | _ => False)
      | none => compL m Sty g tt te ix a p Q ds M') fun o ho => ?_
    cases o with
    | some y =>
      simp only [put_same, put_put]
      refine ⟨by omega, ih (acc ++ [y]) (by simp; omega) (fun d hd => step d (List.mem_cons_of_mem _ hd)) fun os hos => ?_⟩
      have := fin (some y :: os) (.cons ho hos)
      simpa [List.filterMap_cons] using this
    | none =>
      refine ih acc (by omega) (fun d hd => step d (List.mem_cons_of_mem _ hd)) fun os hos => ?_
      have := fin (none :: os) (.cons ho hos)
      simpa [List.filterMap_cons] using this
/-- a comprehension of every item's own value -/
theorem compL_map {m : Bool} {Sty : Mst → Prop} {g : DTG} {tt : DTT} {te : DTE} {ix : List Nat} {a : Addr} {p : Rho} {Q : DK} {M : Mst} (hm : M a = none) (f : D → Option D) (hS : ∀ acc, Sty (put M a (.lst acc)))
    {ds : List D} (hl : ds.length ≤ 100000)
    (step : ∀ d ∈ ds, ∀ (acc : List D) (R : Option D → Mst → Prop), R (f d) (put M a (.lst acc)) → g d DW0 (wipeD p ix) (put M a (.lst acc)) fun p2 M2 => tt DW0 p2 M2 fun b M3 => if b = true then te DW0 p2 M3 fun y M4 => R (some y) M4 else R none M3)
    (fin : if m = true then Q (.ref a) (put M a (.lst (ds.filterMap f))) else Q (.lst (ds.filterMap f)) M) : compL m Sty g tt te ix a p Q ds (put M a (.lst [])) := by
  refine compL_rel hm (fun d o => o = f d) hS ds [] (by simpa using hl) (fun d hd acc R h => step d hd acc R (h _ rfl)) fun os hos => ?_
  rw [hos.eq_map]
  have e : (ds.map f).filterMap id = ds.filterMap f := by rw [List.filterMap_map]; rfl
  simpa [e] using fin
theorem loopL_inv {Sty : Mst → Prop} {g : DTG} {tb : DTS} {DW : DWt} {DE : DEnds} (I : Nat → Rho → Mst → Prop) {ds : List D} {n : Nat} (hn : n = ds.length)
    (step : ∀ i d p M (R : Rho → Mst → Prop), ds[i]? = some d → I i p M → (∀ p' M', I (i + 1) p' M' → R p' M') → Sty M ∧ g d DW p M fun p' M' => tb DW { DE with nx := R, ct := R, bk := DE.nx } p' M')
    (fin : ∀ p M, I n p M → Sty M ∧ DE.nx p M) {p : Rho} {M : Mst} (h : I 0 p M) : loopL Sty g tb DW DE ds p M := by
  have main : ∀ k i p M, i + k = ds.length → I i p M → loopL Sty g tb DW DE (ds.drop i) p M := by
    intro k
    induction k with
    | zero =>
      intro i p M e h
      have e' : i = ds.length := by omega
      subst e'
      rw [List.drop_length]
      exact fin p M (by rw [hn]; exact h)
    | succ k ih =>
      intro i p M e h
      have hi : i < ds.length := by omega
      rw [List.drop_eq_getElem_cons hi]
      exact step i ds[i] p M _ (List.getElem?_eq_getElem hi) h fun p' M' h' => ih (i + 1) p' M' (by omega) h'
  simpa using main ds.length 0 p M (by omega) h
theorem while_inv {qc : DTT} {tb : DTS} {DW : DWt} {DE : DEnds} (I : Nat → Rho → Mst → Prop)
    (step : ∀ n p M (R : Rho → Mst → Prop), I n p M → (∀ n' p' M', n' < n → I n' p' M' → R p' M') → qc DW p M fun b M1 => if b = true then tb DW { DE with nx := R, ct := R, bk := DE.nx } p M1 else DE.nx p M1)
    {n : Nat} {p : Rho} {M : Mst} (h : I n p M) : qWhile qc tb DW DE p M := by
  have main : ∀ N n p M, n < N → I n p M → whileL qc tb DW DE N p M := by
    intro N
    induction N with
    | zero => intro n p M h; omega
    | succ N ih =>
      intro n p M h hI
      exact step n p M _ hI fun n' p' M' hn h' => ih n' p' M' (by omega) h'
  exact ⟨n + 1, main (n + 1) n p M (by omega) h⟩
theorem isDataL_all : ∀ ds : List D, isDataL ds = ds.all isData
  | [] => rfl
  | d :: ds => by simp [isDataL, isDataL_all ds]
theorem dep_nil : dep (.lst []) ≤ 64 := by decide
theorem deq_nil (xs : List D) : deq (.lst xs) (.lst []) = xs.isEmpty := by
  unfold deq
  cases xs <;> simp [pyd, pydL, PyData.eqv, PyData.eqvAll]
theorem eq_nil {neg : Bool} {x : D} {ds : List D} {M : Mst} {Q : DK} (hx : res M x = .lst ds) (h : ds.all isData = true) : dEq neg x (.lst []) M Q = Q (.bl (xor neg ds.isEmpty)) M := by
  unfold dEq
  rw [hx, res_lst, deq_nil]
  have h1 : isData (.lst ds) = true := by rw [isData, isDataL_all]; exact h
  have h2 : isData (.lst []) = true := rfl
  have h3 : min (dep (.lst ds)) (dep (.lst [])) ≤ 64 := Nat.le_trans (Nat.min_le_right _ _) dep_nil
  simp [h1, h2, h3]
theorem deq_int (i j : Int) : deq (.int i) (.int j) = decide (i = j) := by
  unfold deq; simp only [pyd, PyData.eqv]
  exact Bool.beq_eq_decide_eq _ _
theorem eq_int {neg : Bool} {i j : Int} {M : Mst} {Q : DK} : dEq neg (.int i) (.int j) M Q = Q (.bl (xor neg (decide (i = j)))) M := by
  unfold dEq
  rw [res_int, res_int, deq_int]
  have h1 : isData (.int i) = true := rfl
  have h2 : isData (.int j) = true := rfl
  have h3 : min (dep (.int i)) (dep (.int j)) ≤ 64 := by simp [dep, pyd, PyData.depth]
  simp [h1, h2, h3]
theorem res_r {M : Mst} {a : Addr} {ds : List D} (h : M a = some (.lst ds)) : res M (.ref a) = .lst ds := by simp [res, h]
theorem res_d {M : Mst} {a : Addr} {kvs : List (Key × D)} (h : M a = some (.dK kvs)) : res M (.ref a) = .dct (kvs.map (·.1)) (kvs.map (·.2)) := by simp [res, h]
/-- the places of what a test lets by -/
def placesF (f : D → Bool) : Nat → List D → List Nat
  | _, [] => []
  | s, d :: ds => if f d = true then s :: placesF f (s + 1) ds else placesF f (s + 1) ds
theorem mem_places {f : D → Bool} : ∀ {s : Nat} {ds : List D} {v : Nat}, v ∈ placesF f s ds ↔ s ≤ v ∧ ∃ d, ds[v - s]? = some d ∧ f d = true
  | s, [], v => by simp [placesF]
  | s, d :: ds, v => by
    unfold placesF
    have ih := mem_places (f := f) (s := s + 1) (ds := ds) (v := v)
    have sh : s + 1 ≤ v → v - s = (v - (s + 1)) + 1 := by omega
    split
    · next h =>
      rw [List.mem_cons, ih]
      constructor
      · rintro (rfl | ⟨h1, x, h2, h3⟩)
        · exact ⟨Nat.le_refl _, d, by simp, h⟩
        · exact ⟨by omega, x, by rw [sh h1]; simpa using h2, h3⟩
      · rintro ⟨h1, x, h2, h3⟩
        by_cases e : v = s
        · exact .inl e
        · have : s + 1 ≤ v := by omega
          exact .inr ⟨this, x, by rw [sh this] at h2; simpa using h2, h3⟩
    · next h =>
      rw [ih]
      constructor
      · rintro ⟨h1, x, h2, h3⟩
        exact ⟨by omega, x, by rw [sh h1]; simpa using h2, h3⟩
      · rintro ⟨h1, x, h2, h3⟩
        by_cases e : v = s
        · subst e; simp at h2; subst h2; exact absurd h3 h
        · have : s + 1 ≤ v := by omega
          exact ⟨this, x, by rw [sh this] at h2; simpa using h2, h3⟩
theorem places_len {f : D → Bool} : ∀ {s : Nat} {ds : List D}, (placesF f s ds).length ≤ ds.length
  | s, [] => Nat.le_refl _
  | s, d :: ds => by
    have := places_len (f := f) (s := s + 1) (ds := ds)
    unfold placesF
    split <;> simp <;> omega
theorem enum_places {f : D → Bool} {g : D → Option D} (hg : ∀ i d, g (.tup [.int i, d]) = if f d = true then some (.int i) else none) : ∀ (s : Nat) (ds : List D), (enumD s ds).filterMap g = (placesF f s ds).map fun v : Nat => D.int (v : Int)
  | s, [] => rfl
  | s, d :: ds => by
    unfold enumD placesF
    rw [List.filterMap_cons, hg]
    have ih := enum_places hg (s + 1) ds
    split
    · next h => simp [ih]; split at h <;> simp_all
    · next b h => split at h <;> simp_all
theorem cut_to {α : Type} (xs : List α) (k : Nat) : cutX xs none (some (k : Int)) = xs.take k := by
  unfold cutX
  rw [HT.sIx_nat, HT.sIx_none, Nat.sub_zero, List.drop_zero]
  rcases Nat.le_total k xs.length with h | h
  · rw [Nat.min_eq_left h]
  · rw [Nat.min_eq_right h, List.take_length, List.take_of_length_le h]
theorem sl_to {m : Bool} {ds : List D} {k : Nat} {M : Mst} {Q : DK} : dSl m (.lst ds) none (some (k : Int)) M Q = newL m (ds.take k) M Q := by
  simp only [dSl, res_lst, cut_to]
theorem any_ints (i : Int) (ns : List Int) : ((ns.map D.int).any fun e => deq e (.int i)) = decide (i ∈ ns) := by
  induction ns with
  | nil => rfl
  | cons n ns ih =>
    rw [List.map_cons, List.any_cons, ih, deq_int, ← Bool.decide_or]
    apply decide_eq_decide.mpr
    simp [eq_comm]
theorem flat_ints (ns : List Int) : (ns.map D.int).all flatD = true := List.all_eq_true.mpr fun x hx => by
  obtain ⟨n, _, rfl⟩ := List.mem_map.mp hx; rfl
theorem in_ints {neg : Bool} {i : Int} {ns : List Int} {M : Mst} {Q : DK} : dIn neg (.int i) (.lst (ns.map D.int)) M Q = Q (.bl (xor neg (decide (i ∈ ns)))) M := by
  unfold dIn
  simp only [dgetD, res_lst, any_ints, flat_ints]
  simp [flatD]
end DL
namespace Pair
section
variable {κ : Type} [DecidableEq κ]
abbrev Held (κ : Type) := List (κ × Nat)
def look : Held κ → κ → Option Nat
  | [], _ => none
  | (a, j) :: r, k => if a = k then some j else look r k
def putH : Held κ → κ → Nat → Held κ
  | [], k, i => [(k, i)]
  | (a, j) :: r, k, i => if a = k then (a, i) :: r else (a, j) :: putH r k i
def ws_ (ws : List (List κ)) (i : Nat) : List κ := (ws[i]?).getD []
def goF (rec : Held κ → Nat → List κ → Bool × Held κ × List κ) (i : Nat) : List κ → Held κ → List κ → Bool × Held κ × List κ
  | [], hd, tr => (false, hd, tr)
  | k :: ks, hd, tr => if k ∈ tr then goF rec i ks hd tr else
    match look hd k with
    | none => (true, putH hd k i, tr ++ [k])
    | some j => match rec hd j (tr ++ [k]) with
      | (true, hd2, tr2) => (true, putH hd2 k i, tr2)
      | (false, hd2, tr2) => goF rec i ks hd2 tr2
def getsF (ws : List (List κ)) : Nat → Held κ → Nat → List κ → Bool × Held κ × List κ
  | 0, hd, _, tr => (false, hd, tr)
  | n + 1, hd, i, tr => goF (getsF ws n) i (ws_ ws i) hd tr
def keys (hd : Held κ) : List κ := hd.map (·.1)
def cnt (hd : Held κ) (v : Nat) : Nat := hd.countP fun q => decide (q.2 = v)
def left (hd : Held κ) (tr : List κ) : Nat := hd.countP fun q => decide (q.1 ∉ tr)
theorem look_put (hd : Held κ) (k k2 : κ) (i : Nat) : look (putH hd k i) k2 = if k = k2 then some i else look hd k2 := by
  induction hd with
  | nil => simp [putH, look]
  | cons q r ih =>
    obtain ⟨a, j⟩ := q
    unfold putH
    split
    · next e =>
      subst e
      simp only [look]
      split <;> rfl
    · next e =>
      simp only [look, ih]
      split
      · next e2 => subst e2; rw [if_neg fun z => e z.symm]
      · rfl
theorem look_some {hd : Held κ} {k : κ} {j : Nat} (h : look hd k = some j) : (k, j) ∈ hd := by
  induction hd with
  | nil => cases h
  | cons q r ih =>
    obtain ⟨a, i⟩ := q
    simp only [look] at h
    split at h
    · next e => subst e; cases h; exact List.mem_cons_self ..
    · exact List.mem_cons_of_mem _ (ih h)
theorem look_mem {hd : Held κ} {k : κ} {j : Nat} (hn : (keys hd).Nodup) (h : (k, j) ∈ hd) : look hd k = some j := by
  induction hd with
  | nil => cases h
  | cons q r ih =>
    obtain ⟨a, i⟩ := q
    simp only [keys, List.map_cons, List.nodup_cons] at hn
    rcases List.mem_cons.mp h with e | e
    · cases e; simp [look]
    · have : a ≠ k := fun z => hn.1 (by rw [z]; exact List.mem_map.mpr ⟨_, e, rfl⟩)
      rw [look, if_neg this]
      exact ih hn.2 e
theorem keys_put {hd : Held κ} {k : κ} {i : Nat} : keys (putH hd k i) = if k ∈ keys hd then keys hd else keys hd ++ [k] := by
  induction hd with
  | nil => simp [putH, keys]
  | cons q r ih =>
    obtain ⟨a, j⟩ := q
    unfold putH
    by_cases e : a = k
    · subst e; simp [keys]
    · rw [if_neg e]
      have e' : ¬ k = a := fun z => e z.symm
      show a :: keys (putH r k i) = if k ∈ a :: keys r then a :: keys r else a :: keys r ++ [k]
      rw [ih]
      by_cases z : k ∈ keys r <;> simp [z, e']
theorem nodup_put {hd : Held κ} {k : κ} {i : Nat} (h : (keys hd).Nodup) : (keys (putH hd k i)).Nodup := by
  rw [keys_put]
  split
  · exact h
  · next e => exact List.nodup_append.mpr ⟨h, by simp, fun x hx y hy => by
      simp at hy; subst hy; exact fun z => e (z ▸ hx)⟩
theorem put_new {hd : Held κ} {k : κ} {i : Nat} (h : look hd k = none) : putH hd k i = hd ++ [(k, i)] := by
  induction hd with
  | nil => rfl
  | cons q r ih =>
    obtain ⟨a, j⟩ := q
    simp only [look] at h
    split at h
    · cases h
    · next e => rw [putH, if_neg e, ih h]; rfl
theorem cnt_new {hd : Held κ} {k : κ} {i v : Nat} (h : look hd k = none) : cnt (putH hd k i) v = cnt hd v + if v = i then 1 else 0 := by
  rw [put_new h]
  unfold cnt
  rw [List.countP_append]
  congr 1
  by_cases e : v = i
  · subst e; simp
  · have : ¬ i = v := fun z => e z.symm
    simp [e, this]
theorem cnt_old {hd : Held κ} {k : κ} {i j v : Nat} (h : look hd k = some j) : cnt (putH hd k i) v + (if v = j then 1 else 0) = cnt hd v + if v = i then 1 else 0 := by
  induction hd with
  | nil => cases h
  | cons q r ih =>
    obtain ⟨a, l⟩ := q
    simp only [look] at h
    unfold putH cnt
    split at h
    · next e =>
      cases h
      rw [if_pos e, List.countP_cons, List.countP_cons]
      have a1 : (decide (i = v)) = decide (v = i) := decide_eq_decide.mpr eq_comm
      have a2 : (decide (j = v)) = decide (v = j) := decide_eq_decide.mpr eq_comm
      simp only [a1, a2, decide_eq_true_eq]
      omega
    · next e =>
      have := ih h
      rw [if_neg e, List.countP_cons, List.countP_cons]
      unfold cnt at this
      omega
theorem len_put {hd : Held κ} {k : κ} {i : Nat} : (putH hd k i).length = hd.length + if look hd k = none then 1 else 0 := by
  induction hd with
  | nil => simp [putH, look]
  | cons q r ih =>
    obtain ⟨a, l⟩ := q
    unfold putH look
    by_cases e : a = k
    · simp [e]
    · rw [if_neg e, if_neg e]
      simp only [List.length_cons, ih]
      omega
theorem mem_put {hd : Held κ} {k k2 : κ} {i j : Nat} (h : (k2, j) ∈ putH hd k i) : (k2, j) = (k, i) ∨ (k2, j) ∈ hd := by
  induction hd with
  | nil => simp [putH] at h; exact .inl (by simp [h])
  | cons q r ih =>
    obtain ⟨a, l⟩ := q
    unfold putH at h
    split at h
    · next e =>
      rcases List.mem_cons.mp h with h | h
      · exact .inl (by rw [h, e])
      · exact .inr (List.mem_cons_of_mem _ h)
    · rcases List.mem_cons.mp h with h | h
      · exact .inr (by rw [h]; exact List.mem_cons_self ..)
      · exact (ih h).imp id fun z => List.mem_cons_of_mem _ z
theorem left_mono {hd : Held κ} {tr tr2 : List κ} (h : ∀ k ∈ tr, k ∈ tr2) : left hd tr2 ≤ left hd tr := by
  unfold left
  exact List.countP_mono_left fun q _ hq => by
    simp only [decide_eq_true_eq] at hq ⊢
    exact fun z => hq (h _ z)
theorem left_less {hd : Held κ} {tr : List κ} {k : κ} {j : Nat} (h : look hd k = some j) (hk : k ∉ tr) : left hd (tr ++ [k]) < left hd tr := by
  induction hd with
  | nil => cases h
  | cons q r ih =>
    obtain ⟨a, l⟩ := q
    simp only [look] at h
    unfold left
    rw [List.countP_cons, List.countP_cons]
    have m := left_mono (hd := r) (tr := tr) (tr2 := tr ++ [k]) fun x hx => List.mem_append_left _ hx
    unfold left at m ih
    split at h
    · next e =>
      subst e
      have e1 : decide (a ∉ tr ++ [a]) = false := by simp
      have e2 : decide (a ∉ tr) = true := by simpa using hk
      simp only [e1, e2, if_true, Bool.false_eq_true, if_false]
      omega
    · next e =>
      have := ih h
      have e3 : decide (a ∉ tr ++ [k]) = decide (a ∉ tr) := by simp [e]
      simp only [e3]
      omega
/-- every holder of a wish of B is held by a wish of B -/
def Closed (ws : List (List κ)) (hd : Held κ) (B : Nat → Prop) : Prop := ∀ b, B b → ∀ k ∈ ws_ ws b, ∃ j, look hd k = some j ∧ B j
structure Fail (ws : List (List κ)) (hd : Held κ) (ks : List κ) (tr : List κ) (hd' : Held κ) (tr' : List κ) : Prop where
  he : hd' = hd
  sub : ∀ k ∈ tr, k ∈ tr'
  all : ∀ k ∈ ks, k ∈ tr'
  cl : ∀ k ∈ tr', k ∈ tr ∨ ∃ j, look hd k = some j ∧ ∀ k2 ∈ ws_ ws j, k2 ∈ tr'
structure Good (ws : List (List κ)) (hd : Held κ) (ks : List κ) (i : Nat) (tr : List κ) (hd' : Held κ) : Prop where
  nd : (keys hd').Nodup
  old : ∀ k ∈ tr, look hd' k = look hd k
  cnt : ∀ v, cnt hd' v = cnt hd v + if v = i then 1 else 0
  fit : ∀ k j, (k, j) ∈ hd' → (k, j) ∈ hd ∨ k ∈ ws_ ws j ∨ (j = i ∧ k ∈ ks)
  len : hd'.length = hd.length + 1
  far : ∀ B, Closed ws hd B → (∃ k ∈ ks, ∀ j, look hd k = some j → ¬ B j) ∧ ∀ k j, look hd k = some j → B j → look hd' k = some j
  keep : ∀ k ∈ keys hd, k ∈ keys hd'
def Out (ws : List (List κ)) (hd : Held κ) (ks : List κ) (i : Nat) (tr : List κ) (o : Bool × Held κ × List κ) : Prop :=
  (o.1 = false ∧ Fail ws hd ks tr o.2.1 o.2.2) ∨ (o.1 = true ∧ Good ws hd ks i tr o.2.1 ∧ ∀ k ∈ tr, k ∈ o.2.2)
theorem go_out {ws : List (List κ)} {n i : Nat} {rec : Held κ → Nat → List κ → Bool × Held κ × List κ} (hrec : ∀ hd j tr, (keys hd).Nodup → left hd tr < n → Out ws hd (ws_ ws j) j tr (rec hd j tr)) :
    ∀ (ks : List κ) (hd : Held κ) (tr : List κ), (keys hd).Nodup → left hd tr < n + 1 → Out ws hd ks i tr (goF rec i ks hd tr)
  | [], hd, tr, nd, hl => .inl ⟨rfl, rfl, fun _ h => h, fun _ h => (by cases h), fun _ h => .inl h⟩
  | k :: ks, hd, tr, nd, hl => by
    unfold goF
    by_cases hk : k ∈ tr
    · rw [if_pos hk]
      rcases go_out hrec ks hd tr nd hl with ⟨e, F⟩ | ⟨e, S, s⟩
      · refine .inl ⟨e, F.he, F.sub, fun x hx => ?_, F.cl⟩
        rcases List.mem_cons.mp hx with rfl | hx
        · exact F.sub _ hk
        · exact F.all _ hx
      · refine .inr ⟨e, ⟨S.nd, S.old, S.cnt, fun a j h => ?_, S.len, fun B hB => ?_, S.keep⟩, s⟩
        · rcases S.fit a j h with h | h | h
          · exact .inl h
          · exact .inr (.inl h)
          · exact .inr (.inr ⟨h.1, List.mem_cons_of_mem _ h.2⟩)
        · obtain ⟨⟨x, x1, x2⟩, y⟩ := S.far B hB
          exact ⟨⟨x, List.mem_cons_of_mem _ x1, x2⟩, y⟩
    · rw [if_neg hk]
      cases el : look hd k with
      | none =>
        refine .inr ⟨rfl, ⟨nodup_put nd, fun x hx => ?_, fun v => cnt_new el, fun x j h => ?_, by simp [len_put, el], fun B hB => ⟨⟨k, List.mem_cons_self .., fun j h => by rw [el] at h; cases h⟩, fun x j h hb => ?_⟩, fun x hx => ?_⟩, fun x hx => List.mem_append_left _ hx⟩
        · show look (putH hd k i) x = _
          rw [look_put, if_neg fun e : k = x => hk (by rw [e]; exact hx)]
        · rcases mem_put h with h | h
          · cases h; exact .inr (.inr ⟨rfl, List.mem_cons_self ..⟩)
          · exact .inl h
        · show look (putH hd k i) x = _
          rw [look_put, if_neg fun e : k = x => (by rw [e, h] at el; cases el)]
          exact h
        · show x ∈ keys (putH hd k i)
          rw [keys_put]; split
          · exact hx
          · exact List.mem_append_left _ hx
      | some j =>
        have hl2 : left hd (tr ++ [k]) < n := by have := left_less el hk; omega
        have h := hrec hd j (tr ++ [k]) nd hl2
        rcases hr : rec hd j (tr ++ [k]) with ⟨b, hd2, tr2⟩
        rw [hr] at h
        simp only [hr]
        have sub1 : ∀ x ∈ tr, x ∈ tr ++ [k] := fun x hx => List.mem_append_left _ hx
        rcases h with ⟨e, F⟩ | ⟨e, S, s⟩
        · cases e
          obtain ⟨hde, sub, all, cl⟩ := F
          simp only at hde sub all cl
          subst hde
          have hl3 : left hd2 tr2 < n + 1 := by have := left_mono (hd := hd2) sub; omega
          have ktr : k ∈ tr2 := sub _ (by simp)
          show Out ws hd2 (k :: ks) i tr (goF rec i ks hd2 tr2)
          rcases go_out hrec ks hd2 tr2 nd hl3 with ⟨e, F⟩ | ⟨e, S, s⟩
          · refine .inl ⟨e, F.he, fun x hx => F.sub _ (sub _ (sub1 _ hx)), fun x hx => ?_, fun x hx => ?_⟩
            · rcases List.mem_cons.mp hx with rfl | hx
              · exact F.sub _ ktr
              · exact F.all _ hx
            · rcases F.cl x hx with h | h
              · rcases cl x h with h | ⟨j2, h1, h2⟩
                · rcases List.mem_append.mp h with h | h
                  · exact .inl h
                  · simp at h; subst h
                    exact .inr ⟨j, el, fun y hy => F.sub _ (all _ hy)⟩
                · exact .inr ⟨j2, h1, fun y hy => F.sub _ (h2 _ hy)⟩
              · exact .inr h
          · refine .inr ⟨e, ⟨S.nd, fun x hx => S.old x (sub _ (sub1 _ hx)), S.cnt, fun a j h => ?_, S.len, fun B hB => ?_, S.keep⟩, fun x hx => s _ (sub _ (sub1 _ hx))⟩
            · rcases S.fit a j h with h | h | h
              · exact .inl h
              · exact .inr (.inl h)
              · exact .inr (.inr ⟨h.1, List.mem_cons_of_mem _ h.2⟩)
            · obtain ⟨⟨x, x1, x2⟩, y⟩ := S.far B hB
              exact ⟨⟨x, List.mem_cons_of_mem _ x1, x2⟩, y⟩
        · cases e
          obtain ⟨nd2, old, hc, fit, len, far, keep⟩ := S
          simp only at nd2 old hc fit len far keep s
          have el2 : look hd2 k = some j := (old k (by simp)).trans el
          refine .inr ⟨rfl, ⟨nodup_put nd2, fun x hx => ?_, fun v => ?_, fun x j2 h => ?_, ?_, fun B hB => ?_, fun x hx => ?_⟩, fun x hx => s _ (sub1 _ hx)⟩
          · show look (putH hd2 k i) x = _
            rw [look_put, if_neg fun e : k = x => hk (by rw [e]; exact hx)]
            exact old x (sub1 _ hx)
          · show cnt (putH hd2 k i) v = _
            have := cnt_old (v := v) (i := i) el2
            have := hc v
            omega
          · rcases mem_put h with h | h
            · cases h; exact .inr (.inr ⟨rfl, List.mem_cons_self ..⟩)
            · rcases fit x j2 h with h | h | h
              · exact .inl h
              · exact .inr (.inl h)
              · exact .inr (.inl (by rw [h.1]; exact h.2))
          · show (putH hd2 k i).length = _
            rw [len_put, el2]; simpa using len
          · obtain ⟨⟨x, x1, x2⟩, y⟩ := far B hB
            have nb : ¬ B j := fun hb => by
              obtain ⟨j2, q1, q2⟩ := hB j hb x x1
              exact x2 j2 q1 q2
            refine ⟨⟨k, List.mem_cons_self .., fun j2 h => ?_⟩, fun x j2 h hb => ?_⟩
            · rw [el] at h; cases h; exact nb
            · show look (putH hd2 k i) x = _
              rw [look_put, if_neg fun e : k = x => (by rw [← e, el] at h; cases h; exact nb hb)]
              exact y x j2 h hb
          · show x ∈ keys (putH hd2 k i)
            rw [keys_put]; split
            · exact keep x hx
            · exact List.mem_append_left _ (keep x hx)
theorem gets_out (ws : List (List κ)) : ∀ (n : Nat) (hd : Held κ) (i : Nat) (tr : List κ), (keys hd).Nodup → left hd tr < n → Out ws hd (ws_ ws i) i tr (getsF ws n hd i tr)
  | 0, _, _, _, _, h => absurd h (Nat.not_lt_zero _)
  | n + 1, hd, i, tr, nd, h => go_out (gets_out ws n) (ws_ ws i) hd tr nd h
def heldF (ws : List (List κ)) (f : Nat) : List Nat → Held κ → Held κ
  | [], hd => hd
  | i :: is, hd => heldF ws f is (getsF ws f hd i []).2.1
structure Inv (ws : List (List κ)) (hd : Held κ) (i : Nat) : Prop where
  nd : (keys hd).Nodup
  fit : ∀ k j, (k, j) ∈ hd → k ∈ ws_ ws j
  one : ∀ v, cnt hd v ≤ 1
  new : ∀ v, i ≤ v → cnt hd v = 0
  len : hd.length ≤ i
  band : ∃ B, Closed ws hd B ∧ ∀ v, v < i → cnt hd v = 0 → B v
theorem inv0 (ws : List (List κ)) : Inv ws [] 0 := ⟨by simp [keys], fun _ _ h => (by cases h), fun _ => by simp [cnt], fun _ _ => by simp [cnt], Nat.le_refl _, fun _ => False, fun _ h => h.elim, fun v h => by omega⟩
theorem inv_step {ws : List (List κ)} {hd : Held κ} {i f : Nat} (I : Inv ws hd i) (hf : i < f) : Inv ws (getsF ws f hd i []).2.1 (i + 1) := by
  have hl : left hd [] < f := Nat.lt_of_le_of_lt (Nat.le_trans List.countP_le_length I.len) hf
  obtain ⟨B, hB, hb⟩ := I.band
  rcases gets_out ws f hd i [] I.nd hl with ⟨_, F⟩ | ⟨_, S, _⟩
  · rw [F.he]
    refine ⟨I.nd, I.fit, I.one, fun v hv => I.new v (by omega), by have := I.len; omega, fun v => B v ∨ v = i ∨ ∃ k ∈ (getsF ws f hd i []).2.2, look hd k = some v, ?_, fun v hv h0 => ?_⟩
    · have key : ∀ k ∈ (getsF ws f hd i []).2.2, ∃ j, look hd k = some j ∧ (B j ∨ j = i ∨ ∃ k ∈ (getsF ws f hd i []).2.2, look hd k = some j) ∧ ∀ k2 ∈ ws_ ws j, k2 ∈ (getsF ws f hd i []).2.2 := fun k hk => by
        rcases F.cl k hk with h | ⟨j, h1, h2⟩
        · cases h
        · exact ⟨j, h1, .inr (.inr ⟨k, hk, h1⟩), h2⟩
      rintro b (h | h | ⟨k0, h0, h1⟩) k hk
      · obtain ⟨j, q1, q2⟩ := hB b h k hk
        exact ⟨j, q1, .inl q2⟩
      · subst h
        obtain ⟨j, q1, q2, _⟩ := key k (F.all k hk)
        exact ⟨j, q1, q2⟩
      · obtain ⟨j0, e0, _, all⟩ := key k0 h0
        rw [h1] at e0; cases e0
        obtain ⟨j, q1, q2, _⟩ := key k (all k hk)
        exact ⟨j, q1, q2⟩
    · by_cases e : v = i
      · exact .inr (.inl e)
      · exact .inl (hb v (by omega) h0)
  · have h0 := I.new i (Nat.le_refl _)
    refine ⟨S.nd, fun k j h => ?_, fun v => ?_, fun v hv => ?_, by rw [S.len]; have := I.len; omega, B, fun b h k hk => ?_, fun v hv hc => ?_⟩
    · rcases S.fit k j h with h | h | h
      · exact I.fit k j h
      · exact h
      · rw [h.1]; exact h.2
    · rw [S.cnt]; have := I.one v; split
      · next e => rw [e, h0]; omega
      · omega
    · rw [S.cnt, I.new v (by omega), if_neg (by omega)]
    · obtain ⟨j, q1, q2⟩ := hB b h k hk
      exact ⟨j, (S.far B hB).2 k j q1 q2, q2⟩
    · rw [S.cnt] at hc
      split at hc
      · omega
      · exact hb v (by omega) (by omega)
theorem inv_all {ws : List (List κ)} {f : Nat} : ∀ (m i : Nat) (hd : Held κ), Inv ws hd i → i + m ≤ f → Inv ws (heldF ws f (List.range' i m) hd) (i + m)
  | 0, i, hd, I, _ => I
  | m + 1, i, hd, I, h => by
    rw [List.range'_succ]
    have := inv_all (f := f) m (i + 1) _ (inv_step (f := f) I (by omega)) (by omega)
    rw [show i + (m + 1) = i + 1 + m by omega]
    exact this
inductive Mt : List (List κ) → List κ → Nat → Prop
  | nil {tk} : Mt [] tk 0
  | skip {w ws tk n} : Mt ws tk n → Mt (w :: ws) tk n
  | take {w ws tk n h} : h ∈ w → h ∉ tk → Mt ws (tk ++ [h]) n → Mt (w :: ws) tk (n + 1)
def IsMost (ws : List (List κ)) (tk : List κ) (r : Nat) : Prop := Mt ws tk r ∧ ∀ n, Mt ws tk n → n ≤ r
theorem Mt.mono {ws : List (List κ)} {tk : List κ} {n : Nat} (h : Mt ws tk n) : ∀ {tk' : List κ}, (∀ x ∈ tk', x ∈ tk) → Mt ws tk' n := by
  induction h with
  | nil => intro tk' _; exact .nil
  | skip _ ih => intro tk' hs; exact .skip (ih hs)
  | @take w ws tk n x h1 h2 _ ih => intro tk' hs; exact .take h1 (fun z => h2 (hs _ z)) (ih fun y hy => by
      rcases List.mem_append.mp hy with hy | hy
      · exact List.mem_append_left _ (hs _ hy)
      · exact List.mem_append_right _ hy)
/-- no matching has more -/
theorem Mt.le {B : Nat → Bool} {N : List κ} {ws : List (List κ)} {tk : List κ} {r : Nat} (h : Mt ws tk r) : ∀ (s : Nat), (∀ v w, ws[v]? = some w → B (s + v) = true → ∀ k ∈ w, k ∈ N) →
    r ≤ (List.range' s ws.length).countP (fun v => !B v) + N.countP fun k => decide (k ∉ tk) := by
  induction h with
  | nil => intro s _; exact Nat.zero_le _
  | @skip w ws tk n _ ih =>
    intro s hN
    have := ih (s + 1) fun v x hv hb => hN (v + 1) x (by simpa using hv) (by rw [show s + (v + 1) = s + 1 + v by omega]; exact hb)
    rw [List.length_cons, List.range'_succ, List.countP_cons]
    omega
  | @take w ws tk n x h1 h2 _ ih =>
    intro s hN
    have q := ih (s + 1) fun v y hv hb => hN (v + 1) y (by simpa using hv) (by rw [show s + (v + 1) = s + 1 + v by omega]; exact hb)
    rw [List.length_cons, List.range'_succ, List.countP_cons]
    have m1 : ∀ N : List κ, N.countP (fun k => decide (k ∉ tk ++ [x])) ≤ N.countP fun k => decide (k ∉ tk) := fun N => List.countP_mono_left fun k _ hk => by simp at hk ⊢; exact hk.1
    cases hb : B s with
    | false => have := m1 N; simp only [hb, Bool.not_false, if_true]; omega
    | true =>
      have hx : x ∈ N := hN 0 w (by simp) (by simpa using hb) x h1
      have m2 : N.countP (fun k => decide (k ∉ tk ++ [x])) + 1 ≤ N.countP fun k => decide (k ∉ tk) := by
        clear q hN ih
        induction N with
        | nil => cases hx
        | cons a N ih =>
          rw [List.countP_cons, List.countP_cons]
          rcases List.mem_cons.mp hx with rfl | hx
          · have e1 : decide (x ∉ tk ++ [x]) = false := by simp
            have e2 : decide (x ∉ tk) = true := by simpa using h2
            have := m1 N
            simp only [e1, e2, if_true, Bool.false_eq_true, if_false]; omega
          · have := ih hx
            by_cases z : a ∈ tk
            · have e1 : decide (a ∉ tk ++ [x]) = false := by simp [z]
              have e2 : decide (a ∉ tk) = false := by simpa using z
              simp only [e1, e2, if_true, Bool.false_eq_true, if_false]; omega
            · by_cases z2 : a = x
              · subst z2
                have e1 : decide (a ∉ tk ++ [a]) = false := by simp
                have e2 : decide (a ∉ tk) = true := by simpa using z
                simp only [e1, e2, if_true, Bool.false_eq_true, if_false]; omega
              · have e1 : decide (a ∉ tk ++ [x]) = true := by simp [z, z2]
                have e2 : decide (a ∉ tk) = true := by simpa using z
                simp only [e1, e2, if_true, Bool.false_eq_true, if_false]; omega
      simp only [hb, Bool.not_true, Bool.false_eq_true, if_false]; omega
theorem nodup_le {α : Type} [DecidableEq α] : ∀ {l m : List α}, l.Nodup → (∀ x ∈ l, x ∈ m) → l.length ≤ m.length
  | [], _, _, _ => Nat.zero_le _
  | a :: l, m, nd, h => by
    have ha := h a (List.mem_cons_self ..)
    rw [List.nodup_cons] at nd
    have := nodup_le (l := l) (m := m.erase a) nd.2 fun x hx => (List.mem_erase_of_ne fun e => nd.1 (by rw [← e]; exact hx)).mpr (h x (List.mem_cons_of_mem _ hx))
    rw [List.length_erase_of_mem ha] at this
    have : 0 < m.length := List.length_pos_of_mem ha
    rw [List.length_cons]; omega
theorem cnt_pos {hd : Held κ} {v : Nat} (h : cnt hd v ≠ 0) : ∃ k, (k, v) ∈ hd := by
  unfold cnt at h
  obtain ⟨q, h1, h2⟩ := List.countP_pos_iff.mp (Nat.pos_of_ne_zero h)
  simp at h2
  exact ⟨q.1, by rw [← h2]; exact h1⟩
theorem Inv.le {ws : List (List κ)} {hd : Held κ} {n : Nat} (I : Inv ws hd n) (hn : n = ws.length) {r : Nat} (h : Mt ws [] r) : r ≤ hd.length := by
  obtain ⟨B, hB, hb⟩ := I.band
  haveI : ∀ v, Decidable (B v) := fun v => Classical.propDecidable _
  have q : r ≤ (List.range' 0 ws.length).countP (fun v => !decide (B v)) + ((hd.filter fun q => decide (B q.2)).map (·.1)).countP (fun k => decide (k ∉ [])) := h.le (B := fun v => decide (B v)) (N := (hd.filter fun q => decide (B q.2)).map (·.1)) 0 fun v w hv hb k hk => by
    simp only [Nat.zero_add, decide_eq_true_eq] at hb
    obtain ⟨j, h1, h2⟩ := hB v hb k (by simpa [ws_, hv] using hk)
    exact List.mem_map.mpr ⟨(k, j), List.mem_filter.mpr ⟨look_some h1, by simpa using h2⟩, rfl⟩
  have c1 : ((hd.filter fun q => decide (B q.2)).map (·.1)).countP (fun k => decide (k ∉ [])) ≤ (hd.filter fun q => decide (B q.2)).length := by
    refine Nat.le_trans List.countP_le_length (by simp)
  have c2 : (List.range' 0 ws.length).countP (fun v => !decide (B v)) ≤ (hd.filter fun q => !decide (B q.2)).length := by
    rw [List.countP_eq_length_filter]
    refine Nat.le_trans (nodup_le (m := (hd.filter fun q => !decide (B q.2)).map (·.2)) (List.Nodup.sublist List.filter_sublist (List.nodup_range' ..)) fun v hv => ?_) (by simp)
    obtain ⟨h1, h2⟩ := List.mem_filter.mp hv
    have hv : v < n := by rw [hn]; simp [List.mem_range'] at h1; omega
    have nb : ¬ B v := by simpa using h2
    obtain ⟨k, hk⟩ := cnt_pos (hd := hd) (v := v) fun z => nb (hb v hv z)
    exact List.mem_map.mpr ⟨(k, v), List.mem_filter.mpr ⟨hk, by simpa using nb⟩, rfl⟩
  have c3 : (hd.filter fun q => decide (B q.2)).length + (hd.filter fun q => !decide (B q.2)).length = hd.length := by
    rw [← List.countP_eq_length_filter, ← List.countP_eq_length_filter]
    have := List.length_eq_countP_add_countP (fun q : κ × Nat => decide (B q.2)) (l := hd)
    rw [this]
    congr 1
    exact List.countP_congr fun x _ => by simp
  omega
theorem mt_of (ws : List (List κ)) : ∀ (s : Nat) (hd : Held κ) (tk : List κ), (keys hd).Nodup → (∀ v, cnt hd v ≤ 1) → (∀ k j, (k, j) ∈ hd → k ∉ tk ∧ s ≤ j ∧ ∃ w, ws[j - s]? = some w ∧ k ∈ w) → Mt ws tk hd.length := by
  induction ws with
  | nil =>
    intro s hd tk _ _ h
    cases hd with
    | nil => exact .nil
    | cons q hd => obtain ⟨_, _, w, z, _⟩ := h q.1 q.2 (List.mem_cons_self ..); simp at z
  | cons w ws ih =>
    intro s hd tk nd one h
    have hl : hd.length = (hd.filter fun q => !decide (q.2 = s)).length + cnt hd s := by
      have := List.length_eq_countP_add_countP (fun q : κ × Nat => decide (q.2 = s)) (l := hd)
      rw [this, ← List.countP_eq_length_filter]
      unfold cnt
      rw [Nat.add_comm]
      congr 1
      exact List.countP_congr fun x _ => by simp
    have sub : ∀ q ∈ hd.filter (fun q => !decide (q.2 = s)), q ∈ hd ∧ q.2 ≠ s := fun q hq => by
      obtain ⟨a, b⟩ := List.mem_filter.mp hq
      exact ⟨a, by simpa using b⟩
    have nd2 : (keys (hd.filter fun q => !decide (q.2 = s))).Nodup := List.Nodup.sublist (List.Sublist.map _ List.filter_sublist) nd
    have one2 : ∀ v, cnt (hd.filter fun q => !decide (q.2 = s)) v ≤ 1 := fun v => Nat.le_trans (List.Sublist.countP_le List.filter_sublist) (one v)
    have fit2 : ∀ k j, (k, j) ∈ hd.filter (fun q => !decide (q.2 = s)) → s + 1 ≤ j ∧ ∃ w, ws[j - (s + 1)]? = some w ∧ k ∈ w := fun k j hq => by
      obtain ⟨a, b⟩ := sub _ hq
      obtain ⟨_, h2, x, h3, h4⟩ := h k j a
      simp only at b
      have e : j - s = (j - (s + 1)) + 1 := by omega
      rw [e] at h3
      exact ⟨by omega, x, by simpa using h3, h4⟩
    by_cases e : cnt hd s = 0
    · rw [hl, e]
      exact .skip (ih (s + 1) _ tk nd2 one2 fun k j hq => ⟨(h k j (sub _ hq).1).1, fit2 k j hq⟩)
    · obtain ⟨x, hx⟩ := cnt_pos e
      have : cnt hd s = 1 := by have := one s; omega
      rw [hl, this]
      obtain ⟨h1, _, y, h3, h4⟩ := h x s hx
      simp at h3; subst h3
      refine .take h4 h1 (ih (s + 1) _ _ nd2 one2 fun k j hq => ⟨fun z => ?_, fit2 k j hq⟩)
      rcases List.mem_append.mp z with z | z
      · exact (h k j (sub _ hq).1).1 z
      · simp at z; subst z
        have e1 := look_mem nd hx
        have e2 := look_mem nd (sub _ hq).1
        rw [e1] at e2; cases e2
        exact (sub _ hq).2 rfl
theorem Inv.most {ws : List (List κ)} {hd : Held κ} {n : Nat} (I : Inv ws hd n) (hn : n = ws.length) : IsMost ws [] hd.length := by
  refine ⟨mt_of ws 0 hd [] I.nd I.one fun k j h => ⟨by simp, Nat.zero_le _, ?_⟩, fun r h => I.le hn h⟩
  have hf := I.fit k j h
  unfold ws_ at hf
  cases e : ws[j]? with
  | none => rw [e] at hf; cases hf
  | some w => rw [e] at hf; exact ⟨w, by simpa using e, hf⟩
end
end Pair
namespace Pair
open PySem L2 DL
instance memKey (k : Key) (tr : List Key) : Decidable (k ∈ tr) := @List.instDecidableMemOfLawfulBEq Key instBEqOfDecidableEq inferInstance k tr
def hdD (hd : Held Key) : List (Key × D) := hd.map fun q => (q.1, D.int q.2)
def trD (tr : List Key) : List (Key × D) := tr.map fun k => (k, D.bl true)
def wD (w : List Key) : D := .lst (w.map kD)
def wsD (ws : List (List Key)) : D := .lst (ws.map wD)
@[simp] theorem keyD_kD (k : Key) : keyD (kD k) = some k := by cases k <;> rfl
theorem val_hd (hd : Held Key) (k : Key) : valD (hdD hd) k = (look hd k).map fun j : Nat => D.int (j : Int) := by
  induction hd with
  | nil => rfl
  | cons q r ih =>
    obtain ⟨a, j⟩ := q
    unfold look
    by_cases e : a = k
    · rw [if_pos e]; simp [hdD, valD, e]
    · rw [if_neg e, ← ih]; simp [hdD, valD, e]
theorem putD_map {κ : Type} [DecidableEq κ] {kvs : List (κ × D)} {k : κ} {v : D} (h : k ∉ kvs.map (·.1)) : putD kvs k v = kvs ++ [(k, v)] := by
  unfold putD
  rw [if_neg]
  intro z
  obtain ⟨q, h1, h2⟩ := List.any_eq_true.mp z
  exact h (List.mem_map.mpr ⟨q, h1, by simpa using h2⟩)
theorem putD_cons {κ : Type} [DecidableEq κ] {kvs : List (κ × D)} {a k : κ} {u v : D} (h : a ≠ k) : putD ((a, u) :: kvs) k v = (a, u) :: putD kvs k v := by
  unfold putD
  simp only [List.any_cons, decide_eq_false h, Bool.false_or]
  split
  · simp [h]
  · rfl
theorem map_off {κ : Type} [DecidableEq κ] {kvs : List (κ × D)} {k : κ} {v : D} (h : k ∉ kvs.map (·.1)) : (kvs.map fun kv => if kv.1 = k then (kv.1, v) else kv) = kvs := by
  conv => rhs; rw [← List.map_id kvs]
  apply List.map_congr_left
  intro q hq
  rw [if_neg fun e => h (List.mem_map.mpr ⟨q, hq, e⟩)]; rfl
theorem keys_hd (hd : Held Key) : (hdD hd).map (·.1) = keys hd := by simp [hdD, keys]
theorem put_hd {hd : Held Key} {k : Key} {i : Nat} (nd : (keys hd).Nodup) : putD (hdD hd) k (.int i) = hdD (putH hd k i) := by
  induction hd with
  | nil => rfl
  | cons q r ih =>
    obtain ⟨a, j⟩ := q
    simp only [keys, List.map_cons, List.nodup_cons] at nd
    unfold putH
    by_cases e : a = k
    · subst e
      rw [if_pos rfl]
      have : a ∉ (hdD r).map (·.1) := by rw [keys_hd]; exact nd.1
      show putD ((a, D.int j) :: hdD r) a (.int i) = (a, D.int i) :: hdD r
      unfold putD
      rw [if_pos (by simp), List.map_cons, if_pos rfl, map_off this]
    · rw [if_neg e]
      show putD ((a, D.int j) :: hdD r) k (.int i) = (a, D.int j) :: hdD (putH r k i)
      rw [putD_cons e, ih nd.2]
theorem val_tr (tr : List Key) (k : Key) : (valD (trD tr) k).isSome = decide (k ∈ tr) := by
  induction tr with
  | nil => rfl
  | cons a r ih =>
    by_cases e : a = k
    · simp [trD, valD, e]
    · have e' : ¬ k = a := fun z => e z.symm
      have : valD (trD (a :: r)) k = valD (trD r) k := by simp [trD, valD, e]
      rw [this, ih]; simp [e']
theorem put_tr {tr : List Key} {k : Key} (h : k ∉ tr) : putD (trD tr) k (.bl true) = trD (tr ++ [k]) := by
  rw [putD_map (by simpa [trD] using h)]; simp [trD]
structure Okk (ws : List (List Key)) (hd : Held Key) (tr : List Key) : Prop where
  nd : (keys hd).Nodup
  val : ∀ k j, (k, j) ∈ hd → j < ws.length
  ksub : ∀ k ∈ keys hd, k ∈ ws.flatten
  tnd : tr.Nodup
  tsub : ∀ k ∈ tr, k ∈ ws.flatten
theorem Okk.add {ws : List (List Key)} {hd : Held Key} {tr : List Key} {k : Key} (h : Okk ws hd tr) (hk : k ∉ tr) (hw : k ∈ ws.flatten) : Okk ws hd (tr ++ [k]) :=
  ⟨h.nd, h.val, h.ksub, List.nodup_append.mpr ⟨h.tnd, by simp, fun x hx y hy => by simp at hy; subst hy; exact fun z => hk (z ▸ hx)⟩, fun x hx => by
    rcases List.mem_append.mp hx with hx | hx
    · exact h.tsub _ hx
    · simp at hx; subst hx; exact hw⟩
theorem Okk.put {ws : List (List Key)} {hd : Held Key} {tr : List Key} {k : Key} {i : Nat} (h : Okk ws hd tr) (hi : i < ws.length) (hw : k ∈ ws.flatten) : Okk ws (putH hd k i) tr :=
  ⟨nodup_put h.nd, fun a j q => by
    rcases mem_put q with q | q
    · cases q; exact hi
    · exact h.val _ _ q, fun x hx => by
    rw [keys_put] at hx
    split at hx
    · exact h.ksub _ hx
    · rcases List.mem_append.mp hx with hx | hx
      · exact h.ksub _ hx
      · simp at hx; subst hx; exact hw, h.tnd, h.tsub⟩
theorem ws_sub {ws : List (List Key)} {i : Nat} {k : Key} (h : k ∈ ws_ ws i) : k ∈ ws.flatten := by
  unfold ws_ at h
  cases e : ws[i]? with
  | none => rw [e] at h; cases h
  | some w => rw [e] at h; exact List.mem_flatten.mpr ⟨w, List.mem_of_getElem? e, h⟩
theorem go_okk {ws : List (List Key)} {i : Nat} {rec : Held Key → Nat → List Key → Bool × Held Key × List Key} (hi : i < ws.length) (hrec : ∀ hd j tr, Okk ws hd tr → j < ws.length → Okk ws (rec hd j tr).2.1 (rec hd j tr).2.2) :
    ∀ (ks : List Key) (hd : Held Key) (tr : List Key), (∀ k ∈ ks, k ∈ ws.flatten) → Okk ws hd tr → Okk ws (goF rec i ks hd tr).2.1 (goF rec i ks hd tr).2.2
  | [], hd, tr, _, h => h
  | k :: ks, hd, tr, hs, h => by
    unfold goF
    have hk := hs k (List.mem_cons_self ..)
    have hr := go_okk hi hrec ks
    by_cases z : k ∈ tr
    · rw [if_pos z]; exact hr hd tr (fun x hx => hs x (List.mem_cons_of_mem _ hx)) h
    · rw [if_neg z]
      cases el : look hd k with
      | none => exact (h.add z hk).put hi hk
      | some j =>
        have hj := h.val _ _ (look_some el)
        have h2 := hrec hd j (tr ++ [k]) (h.add z hk) hj
        rcases hr2 : rec hd j (tr ++ [k]) with ⟨b, hd2, tr2⟩
        rw [hr2] at h2
        simp only [hr2]
        cases b with
        | true => exact h2.put hi hk
        | false => exact hr hd2 tr2 (fun x hx => hs x (List.mem_cons_of_mem _ hx)) h2
theorem gets_okk (ws : List (List Key)) : ∀ (n : Nat) (hd : Held Key) (i : Nat) (tr : List Key), Okk ws hd tr → i < ws.length → Okk ws (getsF ws n hd i tr).2.1 (getsF ws n hd i tr).2.2
  | 0, _, _, _, h, _ => h
  | n + 1, hd, i, tr, h, hi => go_okk hi (fun hd j tr h hj => gets_okk ws n hd j tr h hj) (ws_ ws i) hd tr (fun k hk => ws_sub hk) h
def stM (h t : Addr) (hd : Held Key) (tr : List Key) (M : Mst) : Mst := put (put M h (.dK (hdD hd))) t (.dK (trD tr))
section
variable {h t : Addr} {hd hd2 : Held Key} {tr tr2 : List Key} {M : Mst}
theorem st_h (ne : h ≠ t) : stM h t hd tr M h = some (.dK (hdD hd)) := by unfold stM; rw [put_ne ne]; simp
theorem st_t : stM h t hd tr M t = some (.dK (trD tr)) := by unfold stM; simp
theorem st_puth (ne : h ≠ t) : put (stM h t hd tr M) h (.dK (hdD hd2)) = stM h t hd2 tr M := by
  unfold stM; rw [put_comm (Ne.symm ne), put_put]
theorem st_putt : put (stM h t hd tr M) t (.dK (trD tr2)) = stM h t hd tr2 M := by unfold stM; simp
theorem st_st (ne : h ≠ t) : stM h t hd2 tr2 (stM h t hd tr M) = stM h t hd2 tr2 M := by
  show put (put (stM h t hd tr M) h _) t _ = _
  rw [st_puth ne, st_putt]
theorem st_id (h1 : M h = some (.dK (hdD hd))) (h2 : M t = some (.dK (trD tr))) : stM h t hd tr M = M := by
  unfold stM; rw [put_id h1, put_id h2]
end
def spGets (n : Nat) : DSp := fun ds M Q _ => ∃ (ws : List (List Key)) (h t : Addr) (hd : Held Key) (i : Nat) (tr : List Key), ds = [wsD ws, .ref h, .int i, .ref t] ∧ h ≠ t ∧ M h = some (.dK (hdD hd)) ∧ M t = some (.dK (trD tr)) ∧ i < ws.length ∧ Okk ws hd tr ∧
  ws.flatten.length < 90000 ∧ left hd tr < n ∧ Q (.bl (getsF ws n hd i tr).1) (stM h t (getsF ws n hd i tr).2.1 (getsF ws n hd i tr).2.2 M)
def qGets (sp_gets_holder : DSp) : DTS :=
  (qSeq (qFor (qiAny (qOp dIx (qVar 0) (qVar 2))) (gNameD 4)
  (qIfS (qTB (qOp (dIn true) (qVar 4) (qVar 3)))
  (qSeq (qAsg (qC (.bl true)) (gSubD (qVar 3) (qVar 4)))
  (qIfS (qOr (qTB (qOp (dIn true) (qVar 4) (qVar 1))) (qTB (qCall sp_gets_holder [] (qCons (qVar 0) (qCons (qVar 1) (qCons (qOp dIx (qVar 1) (qVar 4)) (qCons (qVar 3) qNil)))))))
  (qSeq (qAsg (qVar 2) (gSubD (qVar 1) (qVar 4)))
  (qRet (qC (.bl true))))
  qNext))
  qNext))
  (qRet (qC (.bl false))))
theorem len_le {ws : List (List Key)} {hd : Held Key} {tr : List Key} (h : Okk ws hd tr) (hl : ws.flatten.length < 90000) : (hdD hd).length < 100000 ∧ (trD tr).length < 100000 := by
  have h1 := nodup_le h.nd h.ksub
  have h2 := nodup_le h.tnd h.tsub
  simp [hdD, trD, keys] at h1 h2 ⊢
  simp at hl
  omega
theorem gets_loop {n : Nat} {ws : List (List Key)} {h t : Addr} {i : Nat} {M : Mst} {DW : DWt} {DE : DEnds} (ne : h ≠ t) (hi : i < ws.length) (hl : ws.flatten.length < 90000) :
    ∀ (ks : List Key) (hd : Held Key) (tr : List Key) (x : Option D), (∀ k ∈ ks, k ∈ ws.flatten) → Okk ws hd tr → left hd tr < n + 1 →
      ((goF (getsF ws n) i ks hd tr).1 = true → DE.rt (.bl true) (stM h t (goF (getsF ws n) i ks hd tr).2.1 (goF (getsF ws n) i ks hd tr).2.2 M)) →
      ((goF (getsF ws n) i ks hd tr).1 = false → ∀ x, DE.nx [some (wsD ws), some (.ref h), some (.int i), some (.ref t), x] (stM h t (goF (getsF ws n) i ks hd tr).2.1 (goF (getsF ws n) i ks hd tr).2.2 M)) →
      loopL always (gNameD 4) (qIfS (qTB (qOp (dIn true) (qVar 4) (qVar 3)))
  (qSeq (qAsg (qC (.bl true)) (gSubD (qVar 3) (qVar 4)))
  (qIfS (qOr (qTB (qOp (dIn true) (qVar 4) (qVar 1))) (qTB (qCall (spGets n) [] (qCons (qVar 0) (qCons (qVar 1) (qCons (qOp dIx (qVar 1) (qVar 4)) (qCons (qVar 3) qNil)))))))
  (qSeq (qAsg (qVar 2) (gSubD (qVar 1) (qVar 4)))
  (qRet (qC (.bl true))))
  qNext))
  qNext) DW DE (ks.map kD) [some (wsD ws), some (.ref h), some (.int i), some (.ref t), x] (stM h t hd tr M)
  | [], hd, tr, x, _, ok, hm, h1, h2 => ⟨trivial, h2 rfl x⟩
  | k :: ks, hd, tr, x, hs, ok, hm, h1, h2 => by
    refine ⟨trivial, ?_⟩
    have hk := hs k (List.mem_cons_self ..)
    have ih := gets_loop (n := n) (M := M) (DW := DW) (DE := DE) ne hi hl ks
    have hs2 : ∀ x ∈ ks, x ∈ ws.flatten := fun x hx => hs x (List.mem_cons_of_mem _ hx)
    unfold goF at h1 h2
    simp only [gNameD, List.set_cons_zero, List.set_cons_succ, qIfS, qTB, qOp, qVar, List.getElem?_cons_zero, List.getElem?_cons_succ]
    rw [in_d st_t (keyD_kD k), val_tr]
    by_cases z : k ∈ tr
    · rw [if_pos z] at h1 h2
      simp only [z, decide_true, Bool.xor_true, Bool.not_true, Bool.false_eq_true, if_false]
      exact ih hd tr _ hs2 ok hm h1 h2
    · rw [if_neg z] at h1 h2
      simp only [z, decide_false, Bool.xor_false, if_true]
      have ok2 := ok.add z hk
      simp only [qSeq, qAsg, qC, gSub_eq, qVar, List.getElem?_cons_zero, List.getElem?_cons_succ]
      rw [set_d st_t (keyD_kD k), put_tr z, st_putt]
      refine ⟨(len_le ok hl).2, ?_⟩
      simp only [qIfS, qOr, qTB, qOp, qVar, List.getElem?_cons_zero, List.getElem?_cons_succ]
      rw [in_d (st_h ne) (keyD_kD k), val_hd]
      -- held[holder] = wish; return True
      have fin : ∀ (DE2 : DEnds) (hd2 : Held Key) (tr2 : List Key), DE2.rt = DE.rt → Okk ws hd2 tr2 → DE.rt (.bl true) (stM h t (putH hd2 k i) tr2 M) →
          (qSeq (qAsg (qVar 2) (gSubD (qVar 1) (qVar 4))) (qRet (qC (.bl true)))) DW DE2 [some (wsD ws), some (.ref h), some (.int i), some (.ref t), some (kD k)] (stM h t hd2 tr2 M) := fun DE2 hd2 tr2 er ok2 hf => by
        simp only [qSeq, qAsg, qVar, gSub_eq, qRet, qC, List.getElem?_cons_zero, List.getElem?_cons_succ]
        rw [set_d (st_h ne) (keyD_kD k), put_hd ok2.nd, st_puth ne]
        exact ⟨(len_le ok2 hl).1, by rw [er]; exact hf⟩
      cases el : look hd k with
      | none =>
        simp only [el] at h1
        exact fin _ hd _ rfl ok2 (h1 trivial)
      | some j =>
        have hj := ok.val _ _ (look_some el)
        simp only [Option.map_some, Option.isSome_some, Bool.xor_true, Bool.not_true, Bool.false_eq_true, if_false, qCall, qCons, qNil, qVar, qOp, List.getElem?_cons_zero, List.getElem?_cons_succ, List.append_nil]
        rw [ix_d (st_h ne) (keyD_kD k) (by rw [val_hd, el]; rfl)]
        have hm2 : left hd (tr ++ [k]) < n := by have := left_less el z; omega
        refine ⟨ws, h, t, hd, j, tr ++ [k], rfl, ne, st_h ne, st_t, hj, ok2, hl, hm2, ?_⟩
        rw [st_st ne]
        have ok3 := gets_okk ws n hd j (tr ++ [k]) ok2 hj
        have out := gets_out ws n hd j (tr ++ [k]) ok.nd hm2
        simp only [el] at h1 h2
        rcases hr : getsF ws n hd j (tr ++ [k]) with ⟨b, hd2, tr2⟩
        rw [hr] at ok3 out
        simp only [hr] at h1 h2
        cases b with
        | true => exact fin _ hd2 tr2 rfl ok3 (h1 rfl)
        | false =>
          obtain ⟨_, F⟩ | ⟨e, _⟩ := out
          · have e := F.he
            simp only at e
            subst e
            exact ih hd2 tr2 _ hs2 ok3 (Nat.lt_of_le_of_lt (left_mono F.sub) (by omega)) h1 h2
          · cases e
theorem gets_ok (n : Nat) (ds : List D) (M : Mst) (Q : DK) (Ed : DX → Mst → Prop) (h : upSp (spGets (n + 1)) ds M Q Ed) : qGets (spGets n) (fun x _ M => Ed x M) (retE Q) (startD ["wishes", "held", "wish", "tried", "holder"] ds) M := by
  obtain ⟨Q0, E0, ⟨ws, h, t, hd, i, tr, rfl, ne, mh, mt, hi, ok, hl, hm, k⟩, kq, _⟩ := h
  replace k := kq _ _ _ (Sub.refl _) k
  show qSeq _ _ _ _ [some (wsD ws), some (.ref h), some (.int i), some (.ref t), none] M
  simp only [qSeq, qFor, qiAny, qOp, qVar, List.getElem?_cons_zero, List.getElem?_cons_succ]
  have e : ws_ ws i = ws[i] := by unfold ws_; rw [List.getElem?_eq_getElem hi]; rfl
  rw [wsD, ix_l (d := wD ws[i]) (by rw [atI_n, List.getElem?_map, List.getElem?_eq_getElem hi]; rfl)]
  simp only [wD]
  have hM : M = stM h t hd tr M := (st_id mh mt).symm
  have lp := gets_loop (n := n) (M := M) (DW := fun x _ M => Ed x M) (DE := { nx := qRet (qC (.bl false)) (fun x _ M => Ed x M) (retE Q), rt := Q }) ne hi hl (ws[i]) hd tr none (fun k hk => ws_sub (by rw [e]; exact hk)) ok hm
  rw [← hM] at lp
  have k' : Q (.bl (goF (getsF ws n) i ws[i] hd tr).1) (stM h t (goF (getsF ws n) i ws[i] hd tr).2.1 (goF (getsF ws n) i ws[i] hd tr).2.2 M) := by
    rw [← e]; exact k
  exact lp (fun z => by rw [z] at k'; exact k') (fun z x => by rw [z] at k'; exact k')
def optD : Option Key → D
  | none => .non
  | some k => kD k
@[simp] theorem isNon_optD (o : Option Key) : isNon (optD o) = o.isNone := by
  cases o with
  | none => rfl
  | some k => cases k <;> rfl
/-- the wishes that are without, and those that their holders are held by, and so on -/
inductive Reach (ws : List (List Key)) (hd : Held Key) (prs : List (Option Key)) : Nat → Prop
  | base {v} : prs[v]? = some none → Reach ws hd prs v
  | step {v k j} : Reach ws hd prs v → k ∈ ws_ ws v → look hd k = some j → Reach ws hd prs j
noncomputable def bandL (ws : List (List Key)) (hd : Held Key) (prs : List (Option Key)) : List Nat :=
  (List.range ws.length).filter fun v => @decide (Reach ws hd prs v) (Classical.propDecidable _)
def natsD (l : List Nat) : List D := l.map fun v : Nat => D.int (v : Int)
structure BandPre (ws : List (List Key)) (hd : Held Key) (prs : List (Option Key)) : Prop where
  len : prs.length = ws.length
  few : ws.length ≤ 63
  each : ∀ w ∈ ws, w.length ≤ 63
  all : ∀ v, Reach ws hd prs v → ∀ k ∈ ws_ ws v, ∃ j, look hd k = some j
  val : ∀ k j, look hd k = some j → j < ws.length
def spBandG (m : Bool) : DSp := fun ds M Q _ => ∃ (ws : List (List Key)) (hd : Held Key) (prs : List (Option Key)) (h : Addr) (pd : D), ds = [wsD ws, pd, .ref h] ∧ (pd = .lst (prs.map optD) ∨ ∃ q, pd = .ref q ∧ M q = some (.lst (prs.map optD))) ∧
  M h = some (.dK (hdD hd)) ∧ BandPre ws hd prs ∧ newL m (natsD (bandL ws hd prs)) M Q
abbrev spBand : DSp := spBandG false
def qBandG (m : Bool) : DTS :=
  (qSeq (qAsg qDNew (gNameD 3))
  (qSeq (qAsg (qLc true (qiEnum (qCons (qVar 1) qNil)) (gTupD 2 (gConsD (gNameD 5) (gConsD (gNameD 6) gNilD))) (qTB (qOp (dIs false) (qVar 6) (qC .non))) (qVar 5) [5, 6]) (gNameD 4))
  (qSeq (qWhile (qTB (qOp (dEq true) (qVar 4) (qLst false qNil)))
  (qSeq (qAsg (qBM0 "list" mPop (qVar 4)) (gNameD 5))
  (qIfS (qTB (qOp (dIn true) (qVar 5) (qVar 3)))
  (qSeq (qAsg (qC (.bl true)) (gSubD (qVar 3) (qVar 5)))
  (qAug 4 (qLc false (qiAny (qOp dIx (qVar 0) (qVar 5))) (gNameD 6) qYes (qOp dIx (qVar 2) (qVar 6)) [6]) dAug))
  qNext)))
  (qRet (qCB (dSorted m) (qCons (qVar 3) qNil))))))
def fdD (l : List Nat) : List (Key × D) := l.map fun v : Nat => ((.inl (v : Int) : Key), D.bl true)
/-- the state ahead of each turn of the while -/
structure BandI (ws : List (List Key)) (hd : Held Key) (prs : List (Option Key)) (fd wt : List Nat) : Prop where
  nd : fd.Nodup
  fr : ∀ v ∈ fd, Reach ws hd prs v
  wr : ∀ v ∈ wt, Reach ws hd prs v
  base : ∀ v, prs[v]? = some none → v ∈ fd ∨ v ∈ wt
  cl : ∀ v ∈ fd, ∀ k ∈ ws_ ws v, ∀ j, look hd k = some j → j ∈ fd ∨ j ∈ wt
  len : wt.length ≤ 63 + 63 * fd.length
theorem reach_lt {ws : List (List Key)} {hd : Held Key} {prs : List (Option Key)} (B : BandPre ws hd prs) {v : Nat} (h : Reach ws hd prs v) : v < ws.length := by
  cases h with
  | base h => rw [← B.len]; exact (List.getElem?_eq_some_iff.mp h).1
  | step _ _ h => exact B.val _ _ h
theorem fd_len {ws : List (List Key)} {hd : Held Key} {prs : List (Option Key)} (B : BandPre ws hd prs) {fd : List Nat} (nd : fd.Nodup) (h : ∀ v ∈ fd, Reach ws hd prs v) : fd.length ≤ 63 := by
  have := nodup_le (m := List.range ws.length) nd fun v hv => List.mem_range.mpr (reach_lt B (h v hv))
  rw [List.length_range] at this
  exact Nat.le_trans this B.few
theorem band_done {ws : List (List Key)} {hd : Held Key} {prs : List (Option Key)} (B : BandPre ws hd prs) {fd : List Nat} (I : BandI ws hd prs fd []) {ns : List Int} (hp : ns.Perm (fd.map fun v : Nat => (v : Int))) (hs : ns.Pairwise (· ≤ ·)) :
    ns.map D.int = natsD (bandL ws hd prs) := by
  have all : ∀ v, Reach ws hd prs v → v ∈ fd := fun v h => by
    induction h with
    | base h => exact (I.base _ h).resolve_right (by simp)
    | step _ hk hl ih => exact (I.cl _ ih _ hk _ hl).resolve_right (by simp)
  have e : ns = (bandL ws hd prs).map fun v : Nat => (v : Int) := by
    have p2 : ((bandL ws hd prs).map fun v : Nat => (v : Int)).Pairwise (· ≤ ·) := by
      rw [List.pairwise_map]
      refine List.Pairwise.sublist List.filter_sublist (List.Pairwise.imp ?_ (List.pairwise_lt_range (n := ws.length)))
      intro a b h; omega
    have p1 : (bandL ws hd prs).Perm fd := by
      have nb : (bandL ws hd prs).Nodup := List.Nodup.sublist List.filter_sublist List.nodup_range
      rw [List.perm_ext_iff_of_nodup nb I.nd]
      intro v
      unfold bandL
      rw [List.mem_filter]
      constructor
      · rintro ⟨_, h⟩; exact all v (@of_decide_eq_true _ (_) h)
      · intro h; exact ⟨List.mem_range.mpr (reach_lt B (I.fr v h)), @decide_eq_true _ (_) (I.fr v h)⟩
    exact List.Perm.eq_of_pairwise (fun a b _ _ h1 h2 => by omega) hs p2 (hp.trans (p1.map _).symm)
  rw [e]; unfold natsD; rw [List.map_map]; rfl
end Pair
namespace Pair
open PySem L2 DL
def bM (a b : Addr) (fd wt : List Nat) (M : Mst) : Mst := put (put M a (.dK (fdD fd))) b (.lst (natsD wt))
theorem val_fd (fd : List Nat) (v : Nat) : (valD (fdD fd) (.inl (v : Int))).isSome = decide (v ∈ fd) := by
  induction fd with
  | nil => rfl
  | cons a r ih =>
    by_cases e : a = v
    · subst e; simp [fdD, valD]
    · have e' : ¬ v = a := fun z => e z.symm
      have : valD (fdD (a :: r)) (.inl (v : Int)) = valD (fdD r) (.inl (v : Int)) := by
        have : ¬ ((a : Int) = (v : Int)) := by omega
        simp [fdD, valD, this]
      rw [this, ih]; simp [e']
theorem put_fd {fd : List Nat} {v : Nat} (h : v ∉ fd) : putD (fdD fd) (.inl (v : Int)) (.bl true) = fdD (fd ++ [v]) := by
  rw [putD_map]
  · simp [fdD]
  · intro z
    simp [fdD] at z
    obtain ⟨x, hx, e⟩ := z
    have e' : x = v := by omega
    exact h (e' ▸ hx)
theorem isData_nats (l : List Nat) : (natsD l).all isData = true := by
  unfold natsD
  rw [List.all_map]
  exact List.all_eq_true.mpr fun x _ => rfl
section
variable {a b h : Addr} {fd wt fd2 wt2 : List Nat} {M : Mst}
theorem bM_a (ne : a ≠ b) : bM a b fd wt M a = some (.dK (fdD fd)) := by unfold bM; rw [put_ne ne]; simp
theorem bM_b : bM a b fd wt M b = some (.lst (natsD wt)) := by unfold bM; simp
theorem bM_h (h1 : h ≠ a) (h2 : h ≠ b) : bM a b fd wt M h = M h := by unfold bM; rw [put_ne h2, put_ne h1]
theorem bM_puta (ne : a ≠ b) : put (bM a b fd wt M) a (.dK (fdD fd2)) = bM a b fd2 wt M := by
  unfold bM; rw [put_comm (Ne.symm ne), put_put]
theorem bM_putb : put (bM a b fd wt M) b (.lst (natsD wt2)) = bM a b fd wt2 M := by unfold bM; simp
end
theorem ne_of_put {M : Mst} {a b : Addr} {o : MO} (h : put M a o b = none) : b ≠ a := fun e => by rw [e, put_same] at h; cases h
theorem ne_of_some {M : Mst} {a b : Addr} {o : MO} (h : M a = some o) (g : M b = none) : a ≠ b := fun e => by rw [e, g] at h; cases h
def keyF (hd : Held Key) (d : D) : Option D := match keyD d with
  | some k => (look hd k).map fun j : Nat => D.int (j : Int)
  | none => none
theorem keyF_map (hd : Held Key) : ∀ w : List Key, (w.map kD).filterMap (keyF hd) = natsD (w.filterMap (look hd))
  | [] => rfl
  | k :: w => by
    have ih := keyF_map hd w
    rw [List.map_cons, List.filterMap_cons, List.filterMap_cons]
    have e : keyF hd (kD k) = (look hd k).map fun j : Nat => D.int (j : Int) := by simp [keyF]
    rw [e]
    cases look hd k with
    | none => exact ih
    | some j => simp [ih, natsD]
theorem newL_up {m : Bool} {ds : List D} {M M' : Mst} {Q0 Q : DK} (hs : Sub M M') (kq : ∀ d M' M'', Sub M'' M' → Q0 d M'' → Q d M') (h : newL m ds M Q0) : newL m ds M' Q := by
  cases m with
  | false => exact kq _ _ _ hs h
  | true =>
    intro c hc
    have mc : M c = none := by
      cases e : M c with
      | none => rfl
      | some o => rw [hs _ _ e] at hc; cases hc
    refine kq _ _ _ (fun a o e => ?_) (h c mc)
    by_cases z : a = c
    · subst z; rw [put_same] at e ⊢; exact e
    · rw [put_ne z] at e ⊢; exact hs _ _ e
theorem band_ok (m : Bool) (ds : List D) (M : Mst) (Q : DK) (Ed : DX → Mst → Prop) (hsp : upSp (spBandG m) ds M Q Ed) : qBandG m (fun x _ M => Ed x M) (retE Q) (startD ["wishes", "pairs", "held", "found", "waiting", "wish", "holder"] ds) M := by
  obtain ⟨Q0, E0, ⟨ws, hd, prs, h, pd, rfl, hpd, mh, B, k⟩, kq, _⟩ := hsp
  show qSeq _ _ _ _ [some (wsD ws), some pd, some (.ref h), none, none, none, none] M
  simp only [qSeq, qAsg, qDNew, gNameD, List.set_cons_zero, List.set_cons_succ]
  intro a ha
  have nha := ne_of_some mh ha
  simp only [qLc, qiEnum, qCons, qNil, qVar, List.getElem?_cons_zero, List.getElem?_cons_succ]
  obtain ⟨Sty, el, hSty⟩ : ∃ Sty, lstAt (put M a (.dK [])) pd = some (prs.map optD, Sty) ∧ ∀ b acc, put M a (.dK []) b = none → Sty (put (put M a (.dK [])) b (.lst acc)) := by
    rcases hpd with rfl | ⟨q, rfl, mq⟩
    · exact ⟨always, rfl, fun _ _ _ => trivial⟩
    · have nq := ne_of_some mq ha
      have mq2 : put M a (.dK []) q = some (.lst (prs.map optD)) := by rw [put_ne nq]; exact mq
      refine ⟨holds q (.lst (prs.map optD)), by simp [lstAt, mq2], fun b acc hb => ?_⟩
      have nb := ne_of_some mq2 hb
      show put _ b _ q = _
      rw [put_ne nb]; exact mq2
  rw [el]
  simp only
  intro b hb
  have nba := ne_of_put hb
  have hb0 : M b = none := by rw [put_ne nba] at hb; exact hb
  have nhb := ne_of_some mh hb0
  refine compL_map hb (fun d => match d with | .tup [.int i, x] => if isNon x = true then some (.int i) else none | _ => none) (fun acc => hSty b acc hb) (by
      have := B.len; have := B.few; simp; omega) (fun d hd acc R hR => ?_) ?_
  · obtain ⟨i, hi⟩ := List.getElem?_of_mem hd
    rw [enumD_get] at hi
    cases e : (prs.map optD)[i]? with
    | none => rw [e] at hi; cases hi
    | some x =>
      rw [e] at hi
      cases hi
      simp only [gTupD, res_tup, gConsD, gNilD, gNameD, wipeD, List.set_cons_zero, List.set_cons_succ, List.length_cons, List.length_nil]
      refine ⟨trivial, trivial, ?_⟩
      simp only [qTB, qOp, qVar, qC, dIs, List.getElem?_cons_zero, List.getElem?_cons_succ, Bool.false_xor]
      simp only at hR
      cases en : isNon x with
      | true => rw [en] at hR; exact hR
      | false => rw [en] at hR; exact hR
  · simp only [if_true]
    rw [enum_places (f := isNon) (by intro i d; rfl)]
    have w0 : put (put M a (.dK [])) b (.lst ((placesF isNon 0 (prs.map optD)).map fun v : Nat => D.int (v : Int))) = bM a b [] (placesF isNon 0 (prs.map optD)) M := rfl
    rw [w0]
    have mem0 : ∀ v, v ∈ placesF isNon 0 (prs.map optD) ↔ prs[v]? = some none := fun v => by
      rw [mem_places]
      constructor
      · rintro ⟨_, d, h1, h2⟩
        rw [Nat.sub_zero, List.getElem?_map] at h1
        cases e : prs[v]? with
        | none => rw [e] at h1; cases h1
        | some o =>
          rw [e] at h1; cases h1
          rw [isNon_optD] at h2
          cases o with
          | none => rfl
          | some _ => cases h2
      · intro e
        exact ⟨Nat.zero_le _, .non, by rw [Nat.sub_zero, List.getElem?_map, e]; rfl, rfl⟩
    have I0 : BandI ws hd prs [] (placesF isNon 0 (prs.map optD)) := ⟨List.nodup_nil, fun v h => (by cases h), fun v h => .base ((mem0 v).mp h), fun v h => .inr ((mem0 v).mpr h), fun v h => (by cases h), by
      have := places_len (f := isNon) (s := 0) (ds := prs.map optD)
      have := B.len; have := B.few
      simp at this ⊢; simp at *; omega⟩
    refine while_inv (fun n p M' => ∃ fd wt x5 x6, BandI ws hd prs fd wt ∧ p = [some (wsD ws), some pd, some (.ref h), some (.ref a), some (.ref b), x5, x6] ∧ M' = bM a b fd wt M ∧ n = (63 - fd.length) * 64 + wt.length) ?_ ⟨[], _, none, none, I0, rfl, rfl, rfl⟩
    rintro n p M' R ⟨fd, wt, x5, x6, I, rfl, rfl, rfl⟩ hR
    simp only [qTB, qOp, qVar, qLst, qNil, newL_f, List.getElem?_cons_zero, List.getElem?_cons_succ]
    refine ⟨by simp, ?_⟩
    rw [eq_nil (res_r bM_b) (isData_nats wt)]
    have fl := fd_len B I.nd I.fr
    by_cases hw : wt = []
    · -- sorted(found)
      subst hw
      simp only [natsD, List.map_nil, List.isEmpty_nil, Bool.xor_true, Bool.not_true, Bool.false_eq_true, if_false, qRet, qCB, qCons, qNil, qVar, List.getElem?_cons_zero, List.getElem?_cons_succ]
      unfold dSorted
      simp only
      rw [res_d (bM_a nba.symm)]
      have e1 : (fdD fd).map (·.1) = (fd.map fun v : Nat => (v : Int)).map Sum.inl := by simp [fdD]
      simp only [e1, intKeys_map]
      refine ⟨by rw [List.length_map]; omega, fun ns hp hs => ?_⟩
      rw [band_done B I hp hs]
      have sub : Sub M (bM a b fd [] M) := ((Sub.refl M).put ha).put hb0
      exact newL_up sub kq k
    · obtain ⟨wt', v, rfl⟩ : ∃ wt' v, wt = wt' ++ [v] := ⟨wt.dropLast, wt.getLast hw, (List.dropLast_concat_getLast hw).symm⟩
      have e1 : natsD (wt' ++ [v]) = natsD wt' ++ [.int (v : Int)] := by simp [natsD]
      have e2 : (natsD (wt' ++ [v])).isEmpty = false := by rw [e1]; simp
      rw [e2]
      simp only [Bool.xor_false, if_true]
      -- wish = waiting.pop()
      simp only [qSeq, qAsg, qBM0, qVar, gNameD, List.getElem?_cons_zero, List.getElem?_cons_succ, List.set_cons_zero, List.set_cons_succ]
      refine ⟨by rw [res_r bM_b]; rfl, ?_⟩
      have popped : ∀ (Q : DK), Q (.int (v : Int)) (bM a b fd wt' M) → mPop (.ref b) [] (bM a b fd (wt' ++ [v]) M) Q := fun Q hQ => by
        unfold mPop
        simp only
        rw [bM_b]
        simp only [e1]
        have g : (natsD wt' ++ [D.int (v : Int)])[(natsD wt' ++ [D.int (v : Int)]).length - 1]? = some (.int (v : Int)) := by simp
        rw [g]
        simp only
        rw [List.dropLast_concat, bM_putb]
        exact hQ
      apply popped
      have vr : Reach ws hd prs v := I.wr v (by simp)
      have hv := reach_lt B vr
      simp only [qIfS, qTB, qOp, qVar, List.getElem?_cons_zero, List.getElem?_cons_succ]
      rw [in_d (bM_a nba.symm) (k := .inl (v : Int)) rfl, val_fd]
      by_cases hin : v ∈ fd
      · simp only [hin, decide_true, Bool.xor_true, Bool.not_true, Bool.false_eq_true, if_false, qNext]
        refine hR _ _ _ (by rw [List.length_append]; simp) ⟨fd, wt', _, _, ⟨I.nd, I.fr, fun x hx => I.wr x (by simp [hx]), fun x hx => ?_, fun x hx k hk j hj => ?_, by have := I.len; rw [List.length_append] at this; simp at this; omega⟩, rfl, rfl, rfl⟩
        · rcases I.base x hx with h | h
          · exact .inl h
          · rcases List.mem_append.mp h with h | h
            · exact .inr h
            · simp at h; subst h; exact .inl hin
        · rcases I.cl x hx k hk j hj with h | h
          · exact .inl h
          · rcases List.mem_append.mp h with h | h
            · exact .inr h
            · simp at h; subst h; exact .inl hin
      · simp only [hin, decide_false, Bool.xor_false, if_true, qSeq, qAsg, qC, gSub_eq, qVar, List.getElem?_cons_zero, List.getElem?_cons_succ]
        rw [set_d (bM_a nba.symm) (k := .inl (v : Int)) rfl, put_fd hin, bM_puta nba.symm]
        refine ⟨by simp [fdD]; omega, ?_⟩
        simp only [qAug, List.getElem?_cons_zero, List.getElem?_cons_succ, qLc, qiAny, qOp, qVar]
        have ew : ws_ ws v = ws[v] := by unfold ws_; rw [List.getElem?_eq_getElem hv]; rfl
        rw [wsD, ix_l (d := wD ws[v]) (by rw [atI_n, List.getElem?_map, List.getElem?_eq_getElem hv]; rfl)]
        simp only [wD]
        intro c hc
        have hcM : bM a b (fd ++ [v]) wt' M h = some (.dK (hdD hd)) := by rw [bM_h nha nhb]; exact mh
        have nhc := ne_of_some hcM hc
        have wl : ws[v].length ≤ 63 := B.each _ (List.getElem_mem hv)
        refine compL_map hc (keyF hd) (fun _ => trivial) (by rw [List.length_map]; omega) (fun d hd' acc R hR' => ?_) ?_
        · obtain ⟨k0, hk0, rfl⟩ := List.mem_map.mp hd'
          obtain ⟨j, hj⟩ := B.all v vr k0 (by rw [ew]; exact hk0)
          simp only [gNameD, wipeD, List.set_cons_zero, List.set_cons_succ, qYes, if_true, qOp, qVar, List.getElem?_cons_zero, List.getElem?_cons_succ]
          rw [ix_d (M := put (bM a b (fd ++ [v]) wt' M) c (.lst acc)) (kvs := hdD hd) (k := k0) (d := .int (j : Int)) (by rw [put_ne nhc]; exact hcM) (keyD_kD k0) (by rw [val_hd, hj]; rfl)]
          have e3 : keyF hd (kD k0) = some (.int (j : Int)) := by simp [keyF, hj]
          rw [e3] at hR'
          exact hR'
        · simp only [Bool.false_eq_true, if_false]
          rw [keyF_map]
          have jl : (ws[v].filterMap (look hd)).length ≤ 63 := Nat.le_trans (List.length_filterMap_le ..) wl
          have fl2 := fd_len B (fd := fd ++ [v]) (List.nodup_append.mpr ⟨I.nd, by simp, fun x hx y hy => by simp at hy; subst hy; exact fun z => hin (z ▸ hx)⟩) (fun x hx => by
            rcases List.mem_append.mp hx with h | h
            · exact I.fr x h
            · simp at h; subst h; exact vr)
          have il := I.len
          rw [List.length_append] at fl2 il
          simp at fl2 il
          have aug : ∀ (R2 : DK), R2 (.ref b) (bM a b (fd ++ [v]) (wt' ++ ws[v].filterMap (look hd)) M) → dAug (.ref b) (.lst (natsD (ws[v].filterMap (look hd)))) (bM a b (fd ++ [v]) wt' M) R2 := fun R2 h2 => by
            unfold dAug
            simp only
            rw [bM_b]
            simp only [res_lst]
            refine ⟨by simp only [natsD, List.length_map]; omega, ?_⟩
            have : natsD wt' ++ natsD (ws[v].filterMap (look hd)) = natsD (wt' ++ ws[v].filterMap (look hd)) := by simp [natsD]
            rw [this, bM_putb]; exact h2
          apply aug
          refine hR _ _ _ (by simp only [List.length_append, List.length_singleton]; omega) ⟨fd ++ [v], wt' ++ ws[v].filterMap (look hd), _, _, ⟨List.nodup_append.mpr ⟨I.nd, by simp, fun x hx y hy => by simp at hy; subst hy; exact fun z => hin (z ▸ hx)⟩, fun x hx => ?_, fun x hx => ?_, fun x hx => ?_, fun x hx k hk j hj => ?_, by simp only [List.length_append, List.length_singleton]; omega⟩, rfl, rfl, rfl⟩
          · rcases List.mem_append.mp hx with h | h
            · exact I.fr x h
            · simp at h; subst h; exact vr
          · rcases List.mem_append.mp hx with h | h
            · exact I.wr x (by simp [h])
            · obtain ⟨k0, h1, h2⟩ := List.mem_filterMap.mp h
              exact .step vr (by rw [ew]; exact h1) h2
          · rcases I.base x hx with h | h
            · exact .inl (by simp [h])
            · rcases List.mem_append.mp h with h | h
              · exact .inr (by simp [h])
              · exact .inl (by simp at h; simp [h])
          · rcases List.mem_append.mp hx with h | h
            · rcases I.cl x h k hk j hj with h | h
              · exact .inl (by simp [h])
              · rcases List.mem_append.mp h with h | h
                · exact .inr (by simp [h])
                · exact .inl (by simp at h; simp [h])
            · simp at h; subst h
              exact .inr (List.mem_append_right _ (List.mem_filterMap.mpr ⟨k, by rw [← ew]; exact hk, hj⟩))
end Pair
namespace Pair
open PySem L2 DL
section
variable {κ : Type} [DecidableEq κ]
def setP (ps : List (Option κ)) (q : κ × Nat) : List (Option κ) := ps.set q.2 (some q.1)
def prsF (hd : Held κ) (n : Nat) : List (Option κ) := hd.foldl setP (List.replicate n none)
theorem fold_len : ∀ (hd : Held κ) (ps : List (Option κ)), (hd.foldl setP ps).length = ps.length
  | [], _ => rfl
  | q :: hd, ps => by rw [List.foldl_cons, fold_len hd]; simp [setP]
theorem fold_no : ∀ (hd : Held κ) (ps : List (Option κ)) (v : Nat), cnt hd v = 0 → (hd.foldl setP ps)[v]? = ps[v]?
  | [], _, _, _ => rfl
  | q :: hd, ps, v, h => by
    unfold cnt at h
    rw [List.countP_cons] at h
    have h1 : hd.countP (fun q => decide (q.2 = v)) = 0 := by omega
    have h2 : ¬ q.2 = v := fun e => by simp [e] at h
    rw [List.foldl_cons, fold_no hd _ v h1, setP, List.getElem?_set_ne h2]
theorem fold_yes : ∀ (hd : Held κ) (ps : List (Option κ)) (v : Nat) (k : κ), (k, v) ∈ hd → cnt hd v ≤ 1 → v < ps.length → (hd.foldl setP ps)[v]? = some (some k)
  | [], _, _, _, h, _, _ => by cases h
  | q :: hd, ps, v, k, h, h1, hl => by
    unfold cnt at h1
    rw [List.countP_cons] at h1
    rw [List.foldl_cons]
    rcases List.mem_cons.mp h with e | e
    · subst e
      have h2 : hd.countP (fun q => decide (q.2 = v)) = 0 := by simp at h1; exact List.countP_eq_zero.mpr (by simpa using h1)
      rw [fold_no hd _ v h2, setP, List.getElem?_set_self hl]
    · refine fold_yes hd _ v k e (Nat.le_trans (Nat.le_add_right _ _) h1) (by simp [setP]; exact hl)
theorem prs_len (hd : Held κ) (n : Nat) : (prsF hd n).length = n := by unfold prsF; rw [fold_len]; simp
theorem prs_none {hd : Held κ} {n v : Nat} (one : ∀ v, cnt hd v ≤ 1) : (prsF hd n)[v]? = some none ↔ v < n ∧ cnt hd v = 0 := by
  constructor
  · intro h
    have hl : v < n := by rw [← prs_len hd n]; exact (List.getElem?_eq_some_iff.mp h).1
    refine ⟨hl, ?_⟩
    by_cases e : cnt hd v = 0
    · exact e
    · obtain ⟨k, hk⟩ := cnt_pos e
      have := fold_yes hd (List.replicate n none) v k hk (one v) (by simpa using hl)
      unfold prsF at h; rw [h] at this; cases this
  · rintro ⟨hl, e⟩
    unfold prsF
    rw [fold_no hd _ v e]; simp [hl]
theorem prs_some {hd : Held κ} {n v : Nat} {k : κ} (one : ∀ v, cnt hd v ≤ 1) : (prsF hd n)[v]? = some (some k) ↔ v < n ∧ (k, v) ∈ hd := by
  constructor
  · intro h
    have hl : v < n := by rw [← prs_len hd n]; exact (List.getElem?_eq_some_iff.mp h).1
    refine ⟨hl, ?_⟩
    by_cases e : cnt hd v = 0
    · have := (prs_none (n := n) one).mpr ⟨hl, e⟩; rw [h] at this; cases this
    · obtain ⟨k2, hk⟩ := cnt_pos e
      have := fold_yes hd (List.replicate n none) v k2 hk (one v) (by simpa using hl)
      unfold prsF at h; rw [h] at this; cases this; exact hk
  · rintro ⟨hl, h⟩
    exact fold_yes hd _ v k h (one v) (by simpa using hl)
theorem heldF_snoc (ws : List (List κ)) (f : Nat) : ∀ (l : List Nat) (i : Nat) (hd : Held κ), heldF ws f (l ++ [i]) hd = (getsF ws f (heldF ws f l hd) i []).2.1
  | [], i, hd => rfl
  | j :: l, i, hd => by rw [List.cons_append]; exact heldF_snoc ws f l i _
end
def hdOf (ws : List (List Key)) (i : Nat) : Held Key := heldF ws 64 (List.range i) []
theorem hdOf_succ (ws : List (List Key)) (i : Nat) : hdOf ws (i + 1) = (getsF ws 64 (hdOf ws i) i []).2.1 := by
  unfold hdOf; rw [List.range_succ, heldF_snoc]
theorem hdOf_inv (ws : List (List Key)) : ∀ (i : Nat), i ≤ 64 → Inv ws (hdOf ws i) i := fun i h => by
  have := inv_all (ws := ws) (f := 64) i 0 [] (inv0 ws) (by omega)
  rw [Nat.zero_add] at this
  unfold hdOf; rw [List.range_eq_range']; exact this
theorem inv_val {ws : List (List Key)} {hd : Held Key} {i : Nat} (I : Inv ws hd i) {k : Key} {j : Nat} (h : (k, j) ∈ hd) : j < i := by
  refine Nat.lt_of_not_le fun z => ?_
  have := I.new j z
  unfold cnt at this
  have h2 := List.countP_eq_zero.mp this (k, j) h
  simp at h2
theorem inv_okk {ws : List (List Key)} {hd : Held Key} {i : Nat} (I : Inv ws hd i) (hi : i ≤ ws.length) : Okk ws hd [] :=
  ⟨I.nd, fun k j h => Nat.lt_of_lt_of_le (inv_val I h) hi, fun k hk => by
    obtain ⟨⟨a, j⟩, h, rfl⟩ := List.mem_map.mp hk
    exact ws_sub (I.fit _ _ h), List.nodup_nil, fun _ h => (by cases h)⟩
structure PairPre (ws : List (List Key)) : Prop where
  few : ws.length ≤ 63
  each : ∀ w ∈ ws, w.length ≤ 63
theorem flat_le : ∀ {ws : List (List Key)}, (∀ w ∈ ws, w.length ≤ 63) → ws.flatten.length ≤ 63 * ws.length
  | [], _ => Nat.le_refl _
  | w :: ws, h => by
    have := flat_le (ws := ws) fun x hx => h x (List.mem_cons_of_mem _ hx)
    have := h w (List.mem_cons_self ..)
    simp only [List.flatten_cons, List.length_append, List.length_cons]; omega
def heldOf (ws : List (List Key)) : Held Key := hdOf ws ws.length
def prsOf (ws : List (List Key)) : List (Option Key) := prsF (heldOf ws) ws.length
noncomputable def bandOf (ws : List (List Key)) : List Nat := bandL ws (heldOf ws) (prsOf ws)
def spPaired : DSp := fun ds M Q _ => ∃ ws : List (List Key), ds = [wsD ws] ∧ PairPre ws ∧ Q (.tup [.lst ((prsOf ws).map optD), .lst (natsD (bandOf ws))]) M
theorem band_pre {ws : List (List Key)} (P : PairPre ws) : BandPre ws (heldOf ws) (prsOf ws) := by
  have I := hdOf_inv ws ws.length (by have := P.few; omega)
  obtain ⟨B, hB, hb⟩ := I.band
  have inB : ∀ v, Reach ws (heldOf ws) (prsOf ws) v → B v := fun v h => by
    induction h with
    | base h =>
      obtain ⟨h1, h2⟩ := (prs_none I.one).mp h
      exact hb _ h1 h2
    | step _ hk hl ih =>
      obtain ⟨j, h1, h2⟩ := hB _ ih _ hk
      unfold heldOf at hl
      rw [hl] at h1; cases h1; exact h2
  exact ⟨prs_len _ _, P.few, P.each, fun v h k hk => by
    obtain ⟨j, h1, _⟩ := hB v (inB v h) k hk
    exact ⟨j, h1⟩, fun k j h => inv_val I (look_some h)⟩
def qPairedT (sp_gets_holder : DSp) (tail : DTS) : DTS :=
  (qSeq (qAsg qDNew (gNameD 1))
  (qSeq (qFor (qiRng1 (qCons (qCB dLen (qCons (qVar 0) qNil)) qNil)) (gNameD 2)
  (qDrop (qCall sp_gets_holder [] (qCons (qVar 0) (qCons (qVar 1) (qCons (qVar 2) (qCons qDNew qNil)))))))
  (qSeq (qAsg (qLc true (qiAny (qVar 0)) (gNameD 2) qYes (qC .non) [2]) (gNameD 3))
  (qSeq (qLock (selN 1) (qFor (qiItems (qVar 1)) (gTupD 2 (gConsD (gNameD 4) (gConsD (gNameD 2) gNilD)))
  (qAsg (qVar 4) (gSubD (qVar 3) (qVar 2))))) tail))))
def qPairedR (sp_band_of : DSp) (sp_gets_holder : DSp) : DTS := qPairedT sp_gets_holder
  (qFrz 3 (qRet (qTup (qCons (qVar 3) (qCons (qCall sp_band_of [] (qCons (qVar 0) (qCons (qVar 3) (qCons (qVar 1) qNil)))) qNil)))))
theorem repl_non : ∀ (ws : List (List Key)), (ws.map wD).filterMap (fun _ => some D.non) = (List.replicate ws.length (none : Option Key)).map optD
  | [] => rfl
  | w :: ws => by
    have := repl_non ws
    simp [List.replicate_succ, optD] at this ⊢
    exact this
theorem paired_main {ws : List (List Key)} (P : PairPre ws) {M : Mst} {DW : DWt} {DE : DEnds} {tail : DTS}
    (ht : ∀ (M' : Mst) (h b : Addr) (x2 x4 : Option D), Sub M M' → M' h = some (.dK (hdD (heldOf ws))) → M' b = some (.lst ((prsOf ws).map optD)) → M b = none → M h = none → h ≠ b → tail DW DE [some (wsD ws), some (.ref h), x2, some (.ref b), x4] M') :
    qPairedT (spGets 64) tail DW DE [some (wsD ws), none, none, none, none] M := by
  have few := P.few
  have hfl : ws.flatten.length < 90000 := by have := flat_le P.each; omega
  simp only [qPairedT, qSeq, qAsg, qDNew, gNameD, List.set_cons_zero, List.set_cons_succ]
  intro h hh
  simp only [qFor, qiRng1, qCB, qCons, qNil, qVar, List.getElem?_cons_zero, List.getElem?_cons_succ]
  rw [wsD, len_l, ← wsD]
  simp only [List.length_map]
  refine ⟨by omega, by omega, ?_⟩
  refine loopL_inv (fun i p M' => ∃ x2, p = [some (wsD ws), some (.ref h), x2, none, none] ∧ M' h = some (.dK (hdD (hdOf ws i))) ∧ Sub M M') (n := ws.length) (by simp [rangeD]) ?_ ?_ ⟨none, rfl, by simp [hdOf, heldF, hdD], (Sub.refl M).put hh⟩
  · rintro i d p M' R hd ⟨x2, rfl, mh, hsub⟩ hR
    have hi : i < ws.length := by
      have := (List.getElem?_eq_some_iff.mp hd).1
      simpa [rangeD] using this
    have ed : d = .int (i : Int) := by
      simp [rangeD, hi] at hd; exact hd.symm
    subst ed
    refine ⟨trivial, ?_⟩
    simp only [gNameD, List.set_cons_zero, List.set_cons_succ, qDrop, qCall, qCons, qNil, qVar, qDNew, List.getElem?_cons_zero, List.getElem?_cons_succ, List.append_nil]
    intro t ht
    have ne : h ≠ t := ne_of_some mh ht
    have I := hdOf_inv ws i (by omega)
    have ok := inv_okk I (by omega)
    have mh2 : put M' t (.dK []) h = some (.dK (hdD (hdOf ws i))) := by rw [put_ne ne]; exact mh
    have ll : left (hdOf ws i) [] < 64 := Nat.lt_of_le_of_lt (Nat.le_trans List.countP_le_length I.len) (by omega)
    refine ⟨ws, h, t, hdOf ws i, i, [], rfl, ne, mh2, by simp [trD], hi, ok, hfl, ll, ?_⟩
    have mt : M t = none := by
      cases e : M t with
      | none => rfl
      | some o => rw [hsub _ _ e] at ht; cases ht
    refine hR _ _ ⟨_, rfl, ?_, ?_⟩
    · rw [hdOf_succ]; exact st_h ne
    · exact (((hsub.put mt).put hh).put mt)
  · rintro p M' ⟨x2, rfl, mh, hsub⟩
    refine ⟨trivial, ?_⟩
    have I := hdOf_inv ws ws.length (by omega)
    -- pairs = [None for wish in wishes]
    simp only [qLc, qiAny, qVar, List.getElem?_cons_zero, List.getElem?_cons_succ]
    unfold wsD
    intro b hb
    have nhb := ne_of_some mh hb
    have mb : M b = none := by
      cases e : M b with
      | none => rfl
      | some o => rw [hsub _ _ e] at hb; cases hb
    refine compL_map hb (fun _ => some .non) (fun _ => trivial) (by simp; omega) (fun d hd acc R hR => ?_) ?_
    · simp only [gNameD, qYes, qC, if_true]; exact hR
    · simp only [if_true]
      rw [repl_non, ← wsD]
      simp only [qSeq, gNameD, List.set_cons_zero, List.set_cons_succ, qLock, selN, List.getElem?_cons_zero, List.getElem?_cons_succ]
      rw [put_ne nhb, mh]
      simp only
      intro ho
      simp only [qFor, qiItems, qVar, List.getElem?_cons_zero, List.getElem?_cons_succ, put_same]
      have pm : ∀ i, (put (put M' b (.lst (((hdOf ws ws.length).take i).foldl setP (List.replicate ws.length none) |>.map optD))) h (.lk ho (hdD (hdOf ws ws.length)))) b = some (.lst (((hdOf ws ws.length).take i).foldl setP (List.replicate ws.length none) |>.map optD)) := fun i => by
        rw [put_ne nhb.symm, put_same]
      refine loopL_inv (fun i p N => ∃ x2 x4, p = [some (wsD ws), some (.ref h), x2, some (.ref b), x4] ∧ N = put (put M' b (.lst (((hdOf ws ws.length).take i).foldl setP (List.replicate ws.length none) |>.map optD))) h (.lk ho (hdD (hdOf ws ws.length)))) (n := (hdOf ws ws.length).length) (by simp [hdD]) ?_ ?_ ⟨_, _, rfl, rfl⟩
      · rintro i d p N R hd ⟨x2, x4, rfl, rfl⟩ hR
        refine ⟨put_same, ?_⟩
        have hi : i < (hdOf ws ws.length).length := by
          have := (List.getElem?_eq_some_iff.mp hd).1
          simpa [hdD] using this
        have ed : d = .tup [kD (hdOf ws ws.length)[i].1, .int ((hdOf ws ws.length)[i].2 : Int)] := by
          simp [hdD, hi] at hd; exact hd.symm
        subst ed
        have hv : (hdOf ws ws.length)[i].2 < ws.length := inv_val I (k := (hdOf ws ws.length)[i].1) (List.getElem_mem hi)
        simp only [gTupD, res_tup, gConsD, gNilD, gNameD, List.set_cons_zero, List.set_cons_succ, List.length_cons, List.length_nil]
        refine ⟨trivial, trivial, ?_⟩
        simp only [qAsg, gSub_eq, qVar, List.getElem?_cons_zero, List.getElem?_cons_succ]
        rw [set_l (pm i) (j := (hdOf ws ws.length)[i].2) (by
          rw [List.length_map, fold_len, List.length_replicate]; unfold ixN; rw [if_pos (by omega), if_pos (by omega)]; simp)]
        refine hR _ _ ⟨_, _, rfl, ?_⟩
        rw [put_comm nhb, put_put]
        congr 3
        rw [List.take_succ, List.getElem?_eq_getElem hi]
        simp only [Option.toList_some, List.foldl_append, List.foldl_cons, List.foldl_nil, setP, List.map_set]
        rfl
      · rintro p N ⟨x2, x4, rfl, rfl⟩
        refine ⟨put_same, put_same, ?_⟩
        rw [put_put, List.take_length]
        have e0 : ((hdOf ws ws.length).foldl setP (List.replicate ws.length none)) = prsOf ws := rfl
        rw [e0]
        refine ht _ h b _ _ ?_ put_same ?_ mb hh nhb
        · exact (hsub.put mb).put hh
        · rw [put_ne nhb.symm, put_same]
theorem paired_ok (ds : List D) (M : Mst) (Q : DK) (Ed : DX → Mst → Prop) (hsp : upSp spPaired ds M Q Ed) : qPairedR spBand (spGets 64) (fun x _ M => Ed x M) (retE Q) (startD ["wishes", "held", "wish", "pairs", "holder"] ds) M := by
  obtain ⟨Q0, E0, ⟨ws, rfl, P, k⟩, kq, _⟩ := hsp
  refine paired_main P fun M' h b x2 x4 sub mh mb mb0 mh0 nhb => ?_
  simp only [qFrz, frz, List.getElem?_cons_zero, List.getElem?_cons_succ]
  rw [mb]
  simp only [List.set_cons_zero, List.set_cons_succ, qRet, qTup, qCons, qNil, qVar, qCall, List.getElem?_cons_zero, List.getElem?_cons_succ, List.append_nil]
  refine ⟨ws, heldOf ws, prsOf ws, h, _, rfl, .inl rfl, ?_, band_pre P, by simp, ?_⟩
  · unfold DL.del; rw [if_neg nhb]; exact mh
  · refine kq _ _ _ (fun x o e => ?_) k
    have nx : x ≠ b := ne_of_some e mb0
    unfold DL.del; rw [if_neg nx]; exact sub x o e
end Pair
namespace DL
open PySem L2
section
variable {X : Cx}
theorem pairs_vals {pins : List (Addr × Obj)} {σ : L2.St} {H : Hp} {s : Shared} (I : Inv X pins σ H s) : ∀ {ps : List Addr} {kvs : List (Key × V)}, Paired (fun p kv => SqT X.K H p [kV kv.1, kv.2]) ps kvs →
    ∃ (prs : List (Key × Value)) (vps : List (Value × Value)), KV kvs prs ∧ prs.length = ps.length ∧ vps.length = ps.length ∧
      (∀ (j : Nat) (k v : Value), vps[j]? = some (k, v) → ∃ (b : Addr) (q : Key), ps[j]? = some b ∧ s.heap.IsTuple b #[k, v] ∧ prs[j]? = some (q, v) ∧ keyIs q k = true)
  | _, _, .nil => ⟨[], [], .nil, rfl, rfl, fun j k v e => by simp at e⟩
  | _, _, .cons (a := p) (b := kv) h t => by
    obtain ⟨prs, vps, r, hl, hl2, hp⟩ := pairs_vals I t
    obtain ⟨its, rv, ht, _⟩ := I.tuple h
    obtain ⟨u, y, ei, ru, ry⟩ := vals2 rv
    subst ei
    refine ⟨(kv.1, y) :: prs, (u, y) :: vps, .cons ⟨rfl, ry⟩ r, by simp [hl], by simp [hl2], fun j k v e => ?_⟩
    cases j with
    | zero =>
      have e' : (u, y) = (k, v) := Option.some.inj e
      cases e'
      exact ⟨p, kv.1, rfl, ht, rfl, kV_is (P := X.prog) (w := X.w) ru⟩
    | succ j =>
      obtain ⟨b, q, e1, e2, e3, e4⟩ := hp j k v (by simpa using e)
      exact ⟨b, q, by simpa using e1, e2, by simpa using e3, e4⟩
end
def pairsD : List D → Option (List (Key × D))
  | [] => some []
  | .tup [k, v] :: ds => match keyD k, pairsD ds with
    | some k, some r => some ((k, v) :: r)
    | _, _ => none
  | _ :: _ => none
def putAllD (kvs : List (Key × D)) (more : List (Key × D)) : List (Key × D) := more.foldl (fun acc q => putD acc q.1 q.2) kvs
theorem pairsD_of {K : PySem.W.Frag} {G H : Hp} (e : Same G H) : ∀ {ds : List D} {vs : List V} {more : List (Key × D)}, RepL K G ds vs → pairsD ds = some more →
    ∃ (ps : List Addr) (mv : List (Key × V)), vs = ps.map V.ref ∧ Paired (fun p kv => SqT K H p [kV kv.1, kv.2]) ps mv ∧ mv.map (·.1) = more.map (·.1) ∧ RepL K G (more.map (·.2)) (mv.map (·.2)) ∧ ∀ q ∈ more, kOk q.1
  | [], _, more, r, h => by
    cases r; cases h
    exact ⟨[], [], rfl, .nil, rfl, rfl, fun _ h => (by cases h)⟩
  | d :: ds, _, more, ⟨v, vs, e1, r1, r2⟩, h => by
    cases d with
    | tup xs =>
      match xs with
      | [k, x] =>
        simp only [pairsD] at h
        split at h
        · next k' r' hk hr =>
          cases h
          obtain ⟨ps, mv, q1, q2, q3, q4, q5⟩ := pairsD_of e r2 hr
          obtain ⟨a, us, rfl, g1, g2, g3⟩ := r1
          obtain ⟨u, y, rfl, ru, ry⟩ := repL2 g2
          have eu := keyD_of ru hk
          subst eu
          exact ⟨a :: ps, (k', y) :: mv, by rw [e1, q1]; rfl, .cons (.inl (.inl (e _ _ g1))) q2, by simp [q3], RepL.cons ry q4, fun q hq => by
            rcases List.mem_cons.mp hq with rfl | hq
            · exact kOk_of ru hk
            · exact q5 q hq⟩
        · cases h
      | [] => cases h
      | [_] => cases h
      | _ :: _ :: _ :: _ => cases h
    | _ => cases h
theorem putAll_rel {K : PySem.W.Frag} {G : Hp} : ∀ {more : List (Key × D)} {mv : List (Key × V)} {kvs : List (Key × D)} {kv : List (Key × V)}, mv.map (·.1) = more.map (·.1) → RepL K G (more.map (·.2)) (mv.map (·.2)) →
    kv.map (·.1) = kvs.map (·.1) → RepL K G (kvs.map (·.2)) (kv.map (·.2)) → (mergeK kv mv).map (·.1) = (putAllD kvs more).map (·.1) ∧ RepL K G ((putAllD kvs more).map (·.2)) ((mergeK kv mv).map (·.2))
  | [], mv, kvs, kv, h1, r1, h2, r2 => by
    cases mv with
    | nil => exact ⟨h2, r2⟩
    | cons _ _ => cases h1
  | q :: more, mv, kvs, kv, h1, r1, h2, r2 => by
    cases mv with
    | nil => cases h1
    | cons p mv =>
      simp only [List.map_cons, List.cons.injEq] at h1
      obtain ⟨v, r', e, h3, h4⟩ := r1
      simp only [List.map_cons, List.cons.injEq] at e
      obtain ⟨rfl, rfl⟩ := e
      obtain ⟨z1, z2, _⟩ := put_rel (k := q.1) h2 r2 h3
      have e0 : mergeK kv (p :: mv) = mergeK (putK kv q.1 p.2) mv := by rw [← h1.1]; rfl
      rw [e0]
      exact putAll_rel (more := more) (kvs := putD kvs q.1 q.2) h1.2 h4 z1 z2
theorem putAll_keys {P : Key → Prop} : ∀ {more kvs : List (Key × D)}, (∀ q ∈ kvs, P q.1) → (∀ q ∈ more, P q.1) → ∀ q ∈ putAllD kvs more, P q.1
  | [], kvs, h, _ => h
  | q :: more, kvs, h, g => putAll_keys (more := more) (kvs := putD kvs q.1 q.2) (putD_keys h (g q (List.mem_cons_self ..))) fun x hx => g x (List.mem_cons_of_mem _ hx)
/-- d.m(e, ..), d a dict that may change -/
def qBMD (m : DMt) (qo : DTE) (qa : DTA) : DTE := fun DW p M Q => qo DW p M fun x M1 => (∃ a kvs, x = .ref a ∧ M1 a = some (.dK kvs)) ∧ qa DW p M1 fun ds M2 => m x ds M2 Q
section
variable {X : Cx} {W : WX} {o e : Expr} {es : List Expr} {to : TE} {qo : DTE} {t : TA} {qa : DTA} {name : Str} {apos cpos : Pos} {id : String} {r : V → List V → Hp → VK → Prop} {m : DMt}
theorem q_bmD (pa : PlainAttrs "dict") (slot : Slot "dict" name id) (hty : typeOf (.builtin id) = pure (.type "method_descriptor")) (hm : QMt X id r m) (ho : QE X W o to qo) (ha : QA X W (e :: es) t qa)
    (hbase : attributeBase o name X.env (eval o X.env) = eval o X.env := by rfl)
    (hfew : ((backTo cpos (starEach (e :: es) X.env)).all (fun x => !x.1) && (backToKw cpos (keywordEach [] X.env)).all (fun x => x.1.isSome)
      && decide ((e :: es).length + ([] : List Keyword).length + (if ([] : List Keyword).isEmpty then 0 else 1) < 30)) = true := by rfl)
    (hline : (apos.endLine == cpos.line) = true := by rfl) (hs : starEach (e :: es) X.env = (false, eval e X.env) :: starEach es X.env := by rfl) (hplain : (backTo cpos (starEach es X.env)).any (·.1) = false := by rfl) :
    QE X W (.Call (.Attribute o name apos) (e :: es) [] cpos) (tBM X.K "dict" r to t) (qBMD m qo qa) :=
  ⟨pe_bm pa slot hty hm.op ho.pe ha.pe hbase hfew hline hs hplain, fun DW G H p M s Q Q' hw S h k => ho.rf DW G H p M s _ _ hw S h fun G1 H1 M1 x v e1 S1 r1 ⟨⟨a, kvs, ex, em⟩, h1⟩ => ⟨by
    subst ex
    cases r1
    obtain ⟨_, kv, g1, _⟩ := S1.mem _ _ em
    exact .inr (.inr (.inl ⟨rfl, .inl ⟨kv, g1⟩⟩)),
    ha.rf DW G1 H1 p M1 s _ _ (hw.mono e1) S1 h1 fun G2 H2 M2 ds vs e2 S2 r2 h2 => hm.rf G2 H2 p M2 s x v ds vs Q Q' S2 (Rep.mono e2 _ _ r1) r2 h2 fun G' H' M' d w e3 => k G' H' M' d w ((e1.trans e2).trans e3)⟩⟩
end
structure QK (X : Cx) (W : WX) (kws : List Keyword) (t : TA) (q : DTA) : Prop where
  pe : PK X kws t
  rf : RefA X.K W t q
section
variable {X : Cx} {W : WX} {k : Nat} {f : Addr} {fd : FuncData} {ps ks : List Str} {P : DSp} {x : Str} {p pos kpos : Pos} {e : Expr} {es : List Expr} {kws : List Keyword} {te : TE} {qe : DTE} {t tk : TA} {q qk : DTA} {nm : Option Str} {n : Nat} {idx : List Nat}
theorem qk_nil : QK X W [] tNil qNil := ⟨pk_nil, fun DW G H p M s Q Q' hw S q k => k G H M [] [] (Same.refl _) S rfl q⟩
theorem qk_cons (ha : QE X W e te qe) (hr : QK X W kws t q) : QK X W (⟨nm, e, kpos⟩ :: kws) (tCons te t) (qCons qe q) :=
  ⟨pk_cons ha.pe hr.pe, fun DW G H p M s Q Q' hw S h k => ha.rf DW G H p M s _ _ hw S h fun G1 H1 M1 d v e1 S1 r1 h1 =>
    hr.rf DW G1 H1 p M1 s _ _ (hw.mono e1) S1 h1 fun G2 H2 M2 ds vs e2 S2 r2 h2 => k G2 H2 M2 _ _ (e1.trans e2) S2 (RepL.cons (Rep.mono e2 _ _ r1) r2) h2⟩
end
end DL
namespace Pair
open PySem L2 DL
instance memNat (k : Nat) (tr : List Nat) : Decidable (k ∈ tr) := inferInstance
theorem same_len {α : Type} [DecidableEq α] {l m : List α} (nl : l.Nodup) (nm : m.Nodup) (h : ∀ x, x ∈ l ↔ x ∈ m) : l.length = m.length :=
  Nat.le_antisymm (nodup_le nl fun x hx => (h x).mp hx) (nodup_le nm fun x hx => (h x).mpr hx)
theorem filter_two {α : Type} (p : α → Bool) : ∀ l : List α, (l.filter p).length + (l.filter fun x => !p x).length = l.length
  | [] => rfl
  | a :: l => by
    have := filter_two p l
    cases h : p a <;> simp [List.filter_cons, h] <;> omega
theorem nodup_vals {hd : Held Key} (one : ∀ v, cnt hd v ≤ 1) : (hd.map (·.2)).Nodup := by
  induction hd with
  | nil => simp
  | cons q hd ih =>
    rw [List.map_cons, List.nodup_cons]
    have one' : ∀ v, cnt hd v ≤ 1 := fun v => by
      have := one v; unfold cnt at this ⊢; rw [List.countP_cons] at this; omega
    refine ⟨fun h => ?_, ih one'⟩
    obtain ⟨x, h1, h2⟩ := List.mem_map.mp h
    have := one q.2
    unfold cnt at this
    rw [List.countP_cons] at this
    have p1 : 0 < hd.countP fun x => decide (x.2 = q.2) := List.countP_pos_iff.mpr ⟨x, h1, by simp [h2]⟩
    rw [if_pos (by simp)] at this
    omega
theorem cnt_iff {hd : Held Key} {v : Nat} : cnt hd v ≠ 0 ↔ ∃ k, (k, v) ∈ hd := by
  constructor
  · exact cnt_pos
  · rintro ⟨k, hk⟩ e
    have := List.countP_eq_zero.mp e (k, v) hk
    simp at this
theorem fold_count {κ : Type} [DecidableEq κ] : ∀ (hd : Held κ) (ps : List (Option κ)), (∀ q ∈ hd, ps[q.2]? = some none) → (∀ v, cnt hd v ≤ 1) → (hd.foldl setP ps).countP Option.isNone + hd.length = ps.countP Option.isNone
  | [], _, _, _ => rfl
  | q :: hd, ps, h, one => by
    have hq := h q (List.mem_cons_self ..)
    obtain ⟨hl, he⟩ := List.getElem?_eq_some_iff.mp hq
    have one' : ∀ v, cnt hd v ≤ 1 := fun v => by
      have := one v; unfold cnt at this ⊢; rw [List.countP_cons] at this; omega
    have ih := fold_count hd (setP ps q) (fun q' hq' => by
      have ne : q.2 ≠ q'.2 := fun e => by
        have := one q'.2
        unfold cnt at this
        rw [List.countP_cons] at this
        have p1 : 0 < hd.countP fun x => decide (x.2 = q'.2) := List.countP_pos_iff.mpr ⟨q', hq', by simp⟩
        rw [if_pos (by simp [e])] at this
        omega
      rw [setP, List.getElem?_set_ne ne]
      exact h q' (List.mem_cons_of_mem _ hq')) one'
    rw [List.foldl_cons, List.length_cons]
    have e : (setP ps q).countP Option.isNone + 1 = ps.countP Option.isNone := by
      unfold setP
      rw [List.countP_set hl, he]
      have p1 : 0 < ps.countP Option.isNone := List.countP_pos_iff.mpr ⟨ps[q.2], List.getElem_mem hl, by rw [he]; rfl⟩
      simp; omega
    omega
theorem count_none (ws : List (List Key)) (h : ws.length ≤ 63) : (prsOf ws).countP Option.isNone + (heldOf ws).length = ws.length := by
  have I := hdOf_inv ws ws.length (by omega)
  have := fold_count (heldOf ws) (List.replicate ws.length none) (fun q hq => by
    have := inv_val I (k := q.1) hq
    simp [this]) I.one
  unfold prsOf prsF
  rw [this, List.countP_replicate]; simp
theorem somes_len {κ : Type} : ∀ ps : List (Option κ), (ps.filterMap id).length + ps.countP Option.isNone = ps.length
  | [] => rfl
  | o :: ps => by
    have := somes_len ps
    cases o <;> simp <;> omega
theorem somes_nodup {κ : Type} : ∀ ps : List (Option κ), (∀ (i j : Nat) (k : κ), ps[i]? = some (some k) → ps[j]? = some (some k) → i = j) → (ps.filterMap id).Nodup
  | [], _ => List.nodup_nil
  | o :: ps, h => by
    have ih := somes_nodup ps fun i j k h1 h2 => by
      have := h (i + 1) (j + 1) k (by simpa using h1) (by simpa using h2); omega
    cases o with
    | none => simpa using ih
    | some k =>
      rw [List.filterMap_cons]
      show (k :: ps.filterMap id).Nodup
      rw [List.nodup_cons]
      refine ⟨fun hk => ?_, ih⟩
      obtain ⟨o, h1, h2⟩ := List.mem_filterMap.mp hk
      simp only [id] at h2; subst h2
      obtain ⟨j, hj⟩ := List.getElem?_of_mem h1
      have := h 0 (j + 1) k (by simp) (by simpa using hj)
      omega
def addK (tr : List Key) (k : Key) : List Key := if k ∈ tr then tr else tr ++ [k]
def addAll (tr w : List Key) : List Key := w.foldl addK tr
def fitOf (ws : List (List Key)) (band : List Nat) : List Key := band.foldl (fun tr v => addAll tr (ws_ ws v)) []
theorem mem_add {tr : List Key} {k x : Key} : x ∈ addK tr k ↔ x ∈ tr ∨ x = k := by
  unfold addK
  split
  · next h => exact ⟨.inl, fun h' => h'.elim id fun e => e ▸ h⟩
  · simp
theorem nodup_add {tr : List Key} {k : Key} (h : tr.Nodup) : (addK tr k).Nodup := by
  unfold addK
  split
  · exact h
  · next e => exact List.nodup_append.mpr ⟨h, by simp, fun x hx y hy => by simp at hy; subst hy; exact fun z => e (z ▸ hx)⟩
theorem mem_addAll : ∀ {w tr : List Key} {x : Key}, x ∈ addAll tr w ↔ x ∈ tr ∨ x ∈ w
  | [], tr, x => by simp [addAll]
  | k :: w, tr, x => by
    show x ∈ addAll (addK tr k) w ↔ _
    rw [mem_addAll, mem_add, List.mem_cons]
    constructor
    · rintro ((h | h) | h)
      · exact .inl h
      · exact .inr (.inl h)
      · exact .inr (.inr h)
    · rintro (h | h | h)
      · exact .inl (.inl h)
      · exact .inl (.inr h)
      · exact .inr h
theorem nodup_addAll : ∀ {w tr : List Key}, tr.Nodup → (addAll tr w).Nodup
  | [], tr, h => h
  | k :: w, tr, h => nodup_addAll (w := w) (tr := addK tr k) (nodup_add h)
theorem fit_gen (ws : List (List Key)) : ∀ (band : List Nat) (tr : List Key), tr.Nodup → (band.foldl (fun tr v => addAll tr (ws_ ws v)) tr).Nodup ∧ ∀ k, k ∈ band.foldl (fun tr v => addAll tr (ws_ ws v)) tr ↔ k ∈ tr ∨ ∃ v ∈ band, k ∈ ws_ ws v
  | [], tr, h => ⟨h, fun k => by simp⟩
  | v :: band, tr, h => by
    obtain ⟨h1, h2⟩ := fit_gen ws band (addAll tr (ws_ ws v)) (nodup_addAll h)
    refine ⟨h1, fun k => ?_⟩
    rw [List.foldl_cons, h2, mem_addAll]
    constructor
    · rintro ((h | h) | ⟨u, hu, h⟩)
      · exact .inl h
      · exact .inr ⟨v, List.mem_cons_self .., h⟩
      · exact .inr ⟨u, List.mem_cons_of_mem _ hu, h⟩
    · rintro (h | ⟨u, hu, h⟩)
      · exact .inl (.inl h)
      · rcases List.mem_cons.mp hu with rfl | hu
        · exact .inl (.inr h)
        · exact .inr ⟨u, hu, h⟩
/-- what is told is right -/
structure Told (ws : List (List Key)) (prs : List (Option Key)) (band : List Nat) : Prop where
  len : prs.length = ws.length
  fit : ∀ (v : Nat) (k : Key), prs[v]? = some (some k) → k ∈ ws_ ws v
  nd : (prs.filterMap id).Nodup
  up : band.Pairwise (· < ·)
  lt : ∀ v ∈ band, v < ws.length
  many : prs.length + (fitOf ws band).length = (prs.filterMap id).length + band.length
  no : (∀ v : Nat, prs[v]? ≠ some Option.none) → band = []
theorem told {ws : List (List Key)} (P : PairPre ws) : Told ws (prsOf ws) (bandOf ws) := by
  have few := P.few
  have I := hdOf_inv ws ws.length (by omega)
  have B := band_pre P
  have memB : ∀ v, v ∈ bandOf ws ↔ Reach ws (heldOf ws) (prsOf ws) v := fun v => by
    unfold bandOf bandL
    rw [List.mem_filter]
    constructor
    · rintro ⟨_, h⟩; exact @of_decide_eq_true _ (_) h
    · intro h; exact ⟨List.mem_range.mpr (reach_lt B h), @decide_eq_true _ (_) h⟩
  have upB : (bandOf ws).Pairwise (· < ·) := List.Pairwise.sublist List.filter_sublist List.pairwise_lt_range
  have ndB : (bandOf ws).Nodup := List.Nodup.sublist List.filter_sublist List.nodup_range
  have ps : ∀ (v : Nat) (k : Key), (prsOf ws)[v]? = some (some k) ↔ v < ws.length ∧ (k, v) ∈ heldOf ws := fun v k => prs_some I.one
  have pn : ∀ v : Nat, (prsOf ws)[v]? = some none ↔ v < ws.length ∧ cnt (heldOf ws) v = 0 := fun v => prs_none I.one
  refine ⟨prs_len _ _, fun v k h => I.fit _ _ ((ps v k).mp h).2, somes_nodup _ fun i j k h1 h2 => ?_, upB, fun v h => reach_lt B ((memB v).mp h), ?_, fun h => ?_⟩
  · have e1 := look_mem I.nd ((ps i k).mp h1).2
    have e2 := look_mem I.nd ((ps j k).mp h2).2
    rw [e1] at e2; cases e2; rfl
  · have c1 := count_none ws few
    have c2 := somes_len (prsOf ws)
    have pl : (prsOf ws).length = ws.length := prs_len _ _
    obtain ⟨nf, mf⟩ := fit_gen ws (bandOf ws) [] List.nodup_nil
    have mf' : ∀ k, k ∈ fitOf ws (bandOf ws) ↔ ∃ v ∈ bandOf ws, k ∈ ws_ ws v := fun k => by
      have := mf k
      unfold fitOf
      rw [this]; simp
    -- the held ones whose wish is in the band
    have ndk : ((heldOf ws).map (·.1)).Nodup := I.nd
    have V1 : (fitOf ws (bandOf ws)).length = ((heldOf ws).filter fun q => decide (q.2 ∈ bandOf ws)).length := by
      have := same_len (l := fitOf ws (bandOf ws)) (m := ((heldOf ws).filter fun q => decide (q.2 ∈ bandOf ws)).map (·.1)) nf (List.Nodup.sublist (List.Sublist.map _ List.filter_sublist) ndk) fun k => by
        rw [mf' k]
        constructor
        · rintro ⟨v, hv, hk⟩
          obtain ⟨j, hj⟩ := B.all v ((memB v).mp hv) k hk
          exact List.mem_map.mpr ⟨(k, j), List.mem_filter.mpr ⟨look_some hj, by simpa using (memB j).mpr (.step ((memB v).mp hv) hk hj)⟩, rfl⟩
        · intro h
          obtain ⟨⟨k', j⟩, h1, rfl⟩ := List.mem_map.mp h
          obtain ⟨h2, h3⟩ := List.mem_filter.mp h1
          exact ⟨j, by simpa using h3, I.fit _ _ h2⟩
      rw [this, List.length_map]
    have V2 : ((heldOf ws).filter fun q => decide (q.2 ∈ bandOf ws)).length = ((bandOf ws).filter fun v => decide (cnt (heldOf ws) v ≠ 0)).length := by
      have := same_len (l := ((heldOf ws).filter fun q => decide (q.2 ∈ bandOf ws)).map (·.2)) (m := (bandOf ws).filter fun v => decide (cnt (heldOf ws) v ≠ 0)) (List.Nodup.sublist (List.Sublist.map _ List.filter_sublist) (nodup_vals I.one)) (List.Nodup.sublist List.filter_sublist ndB) fun v => by
        constructor
        · intro h
          obtain ⟨⟨k, j⟩, h1, rfl⟩ := List.mem_map.mp h
          obtain ⟨h2, h3⟩ := List.mem_filter.mp h1
          exact List.mem_filter.mpr ⟨by simpa using h3, by simpa using cnt_iff.mpr ⟨k, h2⟩⟩
        · intro h
          obtain ⟨h1, h2⟩ := List.mem_filter.mp h
          obtain ⟨k, hk⟩ := cnt_iff.mp (by simpa using h2)
          exact List.mem_map.mpr ⟨(k, v), List.mem_filter.mpr ⟨hk, by simpa using h1⟩, rfl⟩
      rw [← this, List.length_map]
    have V3 : ((List.range ws.length).filter fun v => decide (cnt (heldOf ws) v ≠ 0)).length = (heldOf ws).length := by
      have := same_len (l := (List.range ws.length).filter fun v => decide (cnt (heldOf ws) v ≠ 0)) (m := (heldOf ws).map (·.2)) (List.Nodup.sublist List.filter_sublist List.nodup_range) (nodup_vals I.one) fun v => by
        constructor
        · intro h
          obtain ⟨h1, h2⟩ := List.mem_filter.mp h
          obtain ⟨k, hk⟩ := cnt_iff.mp (by simpa using h2)
          exact List.mem_map.mpr ⟨(k, v), hk, rfl⟩
        · intro h
          obtain ⟨⟨k, j⟩, h1, rfl⟩ := List.mem_map.mp h
          exact List.mem_filter.mpr ⟨List.mem_range.mpr (inv_val I h1), by simpa using cnt_iff.mpr ⟨k, h1⟩⟩
      rw [this, List.length_map]
    have V4 : ((bandOf ws).filter fun v => !decide (cnt (heldOf ws) v ≠ 0)).length = ((List.range ws.length).filter fun v => !decide (cnt (heldOf ws) v ≠ 0)).length :=
      same_len (List.Nodup.sublist List.filter_sublist ndB) (List.Nodup.sublist List.filter_sublist List.nodup_range) fun v => by
        rw [List.mem_filter, List.mem_filter]
        constructor
        · rintro ⟨h1, h2⟩; exact ⟨List.mem_range.mpr (reach_lt B ((memB v).mp h1)), h2⟩
        · rintro ⟨h1, h2⟩; exact ⟨(memB v).mpr (.base ((pn v).mpr ⟨List.mem_range.mp h1, by simpa using h2⟩)), h2⟩
    have f1 := filter_two (fun v => decide (cnt (heldOf ws) v ≠ 0)) (bandOf ws)
    have f2 := filter_two (fun v => decide (cnt (heldOf ws) v ≠ 0)) (List.range ws.length)
    rw [List.length_range] at f2
    omega
  · cases e : bandOf ws with
    | nil => rfl
    | cons v b =>
      have hv : v ∈ bandOf ws := by rw [e]; exact List.mem_cons_self ..
      have no : ∀ v, ¬ Reach ws (heldOf ws) (prsOf ws) v := fun v hr => by
        induction hr with
        | base hb => exact h _ hb
        | step _ _ _ ih => exact ih
      exact (no v ((memB v).mp hv)).elim
end Pair
namespace DL
open PySem L2
mutual
theorem deq_refl : ∀ d : D, isData d = true → deq d d = true
  | .non, _ => by simp [deq, pyd, PyData.eqv]
  | .bl b, _ => by simp [deq, pyd, PyData.eqv]
  | .int i, _ => by simp [deq, pyd, PyData.eqv]
  | .str x, _ => by simp [deq, pyd, PyData.eqv]
  | .tup ds, h => by have := deqL_refl ds h; simpa [deq, deqL, pyd, PyData.eqv] using this
  | .ktp ds, h => by have := deqL_refl ds h; simpa [deq, deqL, pyd, PyData.eqv] using this
  | .xtp ds, h => by have := deqL_refl ds h; simpa [deq, deqL, pyd, PyData.eqv] using this
  | .lst ds, h => by have := deqL_refl ds h; simpa [deq, deqL, pyd, PyData.eqv] using this
  | .scr _, h => by cases h
  | .ty _, h => by cases h
  | .ref _, h => by cases h
  | .dct _ _, h => by cases h
  | .ins _ _ _, h => by cases h
  | .exc _ _ _ _, h => by cases h
  | .fnv _ _ _ _ _, h => by cases h
  | .fno _ _ _ _, h => by cases h
theorem deqL_refl : ∀ ds : List D, isDataL ds = true → deqL ds ds = true
  | [], _ => by simp [deqL, pydL, PyData.eqvAll]
  | d :: ds, h => by
    have h' : isData d = true ∧ isDataL ds = true := by simpa [isDataL] using h
    have h1 := deq_refl d h'.1
    have h2 := deqL_refl ds h'.2
    simp only [deq, deqL, pydL, PyData.eqvAll] at h1 h2 ⊢
    rw [h1, h2]; rfl
end
theorem deq_str (x y : Str) : deq (.str x) (.str y) = decide (x = y) := by
  unfold deq; simp only [pyd, PyData.eqv]; exact Bool.beq_eq_decide_eq _ _
theorem deq_bl (x y : Bool) : deq (.bl x) (.bl y) = decide (x = y) := by
  unfold deq; simp only [pyd, PyData.eqv]; exact Bool.beq_eq_decide_eq _ _
theorem depA_le {n : Nat} : ∀ ds : List D, (∀ d ∈ ds, dep d ≤ n) → PyData.depthAll (pydL ds) ≤ n
  | [], _ => by simp [pydL, PyData.depthAll]
  | d :: ds, h => by
    have h1 := h d (List.mem_cons_self ..)
    have h2 := depA_le ds fun x hx => h x (List.mem_cons_of_mem _ hx)
    unfold dep at h1
    simp only [pydL, PyData.depthAll]
    omega
theorem dep_lst {n : Nat} {ds : List D} (h : ∀ d ∈ ds, dep d ≤ n) : dep (.lst ds) ≤ n + 1 := by
  have := depA_le ds h
  simp only [dep, pyd, PyData.depth]; omega
theorem dep_tup {n : Nat} {ds : List D} (h : ∀ d ∈ ds, dep d ≤ n) : dep (.tup ds) ≤ n + 1 := by
  have := depA_le ds h
  simp only [dep, pyd, PyData.depth]; omega
theorem eq_str {neg : Bool} {x y : Str} {M : Mst} {Q : DK} : dEq neg (.str x) (.str y) M Q = Q (.bl (xor neg (decide (x = y)))) M := by
  unfold dEq
  rw [res_str, res_str, deq_str]
  have h1 : isData (.str x) = true := rfl
  have h2 : isData (.str y) = true := rfl
  have h3 : min (dep (.str x)) (dep (.str y)) ≤ 64 := by simp [dep, pyd, PyData.depth]
  simp [h1, h2, h3]
/-- isinstance(x, T) -/
theorem isi_one {x : D} {T : String} {b : Bool} {M : Mst} {Q : DK} (h : hasTy (res M x) = true) (hb : isiB (tyD (res M x)) T = some b) : dIsi [x, .ty T] M Q = Q (.bl b) M := by
  unfold dIsi; simp only [h, hb, true_and]
theorem ll : isiB "list" "list" = some true := by decide +kernel
theorem tl : isiB "tuple" "list" = some false := by decide +kernel
/-- all(list of truths) -/
theorem all_bls {bs : List Bool} {M : Mst} {Q : DK} : dAll [.lst (bs.map D.bl)] M Q = Q (.bl (bs.all id)) M := by
  have h : blsD (bs.map D.bl) = some bs := by
    have := blsD_map (id : Bool → Bool) bs
    simpa using this
  unfold dAll
  simp only [res_lst, h]
section
variable {P : Program} {w : World} {K : PySem.W.Frag} {mg : Str → Option Value} {base : Heap}
theorem fn_void {k : Nat} {f : Addr} {fd : FuncData} {ps : List Str} {p : DSp} (h : ∀ ds M Q E, ¬ p ds M Q E) : FnOk P w K mg base (L2.CX P w) k f fd ps (toSp K p) :=
  ⟨fun _ _ _ _ q => by
    obtain ⟨_, ds, M, Qd, Ed, _, _, _, hp, _⟩ := q
    exact (h _ _ _ _ hp).elim, fun _ _ _ _ _ _ _ _ _ _ _ _ _ hs => by
    obtain ⟨_, ds, M, Qd, Ed, _, _, _, hp, _⟩ := hs
    exact (h _ _ _ _ hp).elim⟩
end
end DL
namespace DL
open PySem L2
def okS (z : Str) : Prop := z.length ≤ 100000 ∧ PyData.strOk z = true
theorem okS_rep {K : PySem.W.Frag} {G : Hp} {z : Str} (h : okS z) : Rep K G (.str z) (.str z) := ⟨rfl, sz1000 h.1, h.2⟩
theorem hz24 : sizeLine = 16777216 := by rw [sizeLine_eq]
theorem MtR.imp {X : Cx} {id : String} {r r' : V → List V → Hp → VK → Prop} (h : MtR X id r) (i : ∀ x xs H Q, r' x xs H Q → r x xs H Q) : MtR X id r' := fun pins s σ H x xs v us Q I rx rs q => h pins s σ H x xs v us Q I rx rs (i _ _ _ _ q)
def strsD : List D → Option (List Str)
  | [] => some []
  | .str x :: ds => (strsD ds).map (x :: ·)
  | _ :: _ => none
@[simp] theorem strsD_map : ∀ ys : List Str, strsD (ys.map D.str) = some ys
  | [] => rfl
  | y :: ys => by simp [strsD, strsD_map ys]
theorem strsD_of {K : PySem.W.Frag} {G : Hp} : ∀ {ds : List D} {vs : List V} {ys : List Str}, RepL K G ds vs → strsD ds = some ys → vs = ys.map V.str
  | [], _, _, r, h => by cases r; cases h; rfl
  | d :: ds, _, ys, ⟨v, r, e1, r1, r2⟩, h => by
    cases d with
    | str x =>
      simp only [strsD, Option.map_eq_some_iff] at h
      obtain ⟨zs, h1, rfl⟩ := h
      obtain ⟨rfl, _⟩ := r1
      rw [e1, strsD_of r2 h1]; rfl
    | _ => cases h
def rJoin (K : PySem.W.Frag) : V → List V → Hp → VK → Prop := fun x xs H Q => ∃ a p, ∃ ys : List Str, x = .str a ∧ xs = [.ref p] ∧ SqL K H p (ys.map V.str) ∧ (ys.map (·.length)).sum + ys.length * a.length ≤ 100000 ∧ Q (.str (Txt.join a ys)) H
/-- sep.join(a list of texts) -/
def mJoin : DMt := fun x ds M Q => match res M x, ds with
  | .str z, [d] => match res M d with
    | .lst es => match strsD es with
      | some ys => (ys.map (·.length)).sum + ys.length * z.length ≤ 100000 ∧ okS (Txt.join z ys) ∧ Q (.str (Txt.join z ys)) M
      | none => False
    | _ => False
  | _, _ => False
theorem m_join {X : Cx} : QMt X "str.join" (rJoin X.K) mJoin := ⟨MtR.imp mt_join fun x xs H Q ⟨a, p, ys, e1, e2, e3, e4, q⟩ => ⟨a, p, ys, e1, e2, .inl e3, by omega, q⟩, fun G H p M s x v ds vs Q Q' S r1 r2 h k => by
  unfold mJoin at h
  split at h
  · next z d e =>
    obtain ⟨rfl, _, _⟩ := as_str r1 e
    obtain ⟨u, rfl, r3⟩ := repL1 r2
    split at h
    · next es ed =>
      obtain ⟨a, vs, rfl, h1, h2, _⟩ := as_lst S r3 ed
      split at h
      · next ys ey =>
        have ev := strsD_of h2 ey
        subst ev
        obtain ⟨g1, g2, g3⟩ := h
        exact ⟨z, a, ys, rfl, rfl, .inl (.inl h1), g1, k G H M (.str (Txt.join z ys)) _ (Same.refl _) S (okS_rep g2) g3⟩
      · exact h.elim
    · exact h.elim
  · exact h.elim⟩
def repS (z : Str) (n : Int) : Str := ⟨(List.replicate n.toNat z.cps).foldl (· ++ ·) #[]⟩
def rMulS : R2 := fun x y H Q => ∃ (z : Str) (n : Int), x = .str z ∧ y = .int n ∧ -(2 ^ 62) ≤ n ∧ n ≤ 100000 ∧ z.length * n.toNat ≤ 100000 ∧ Q (.str (repS z n)) H
theorem fold_size (a : Array Nat) : ∀ (k : Nat) (acc : Array Nat), ((List.replicate k a).foldl (· ++ ·) acc).size = acc.size + k * a.size
  | 0, acc => by simp
  | k + 1, acc => by
    rw [List.replicate_succ, List.foldl_cons, fold_size a k, Array.size_append, Nat.succ_mul]; omega
theorem op_mulS {X : Cx} : OpR X (binaryOp .Mult) rMulS := by
  intro pins s σ H x y v u Q I rx ry h
  obtain ⟨z, n, rfl, rfl, h1, h2, h3, q⟩ := h
  obtain ⟨t, rfl⟩ := rx
  obtain ⟨t2, rfl⟩ := ry
  have hz := hz24
  refine P.mul_str ?_ (fun a1 a2 => ?_) (fun a1 a2 => ?_) ?_
  · have e1 : ¬ n < -(2 ^ 63 : Int) := by omega
    have e2 : ¬ n ≥ 2 ^ 63 := by omega
    rw [decide_eq_false e1, decide_eq_false e2]; rfl
  · intro z1
    have e : (2 ^ 63 - 1 : Int) / n ≥ (z.length : Int) := by
      refine Int.le_ediv_of_mul_le (by omega) ?_
      have e3 : ((z.length * n.toNat : Nat) : Int) ≤ 100000 := Int.ofNat_le.mpr h3
      have e4 : ((n.toNat : Nat) : Int) = n := by omega
      rw [Int.natCast_mul, e4] at e3
      omega
    omega
  · unfold Builtin.Str.tooLong
    exact decide_eq_false (by rw [hz]; omega)
  · split
    · next hn =>
      have e : n.toNat = 0 := by omega
      have e2 : repS z n = Str.empty := by unfold repS; rw [e]; rfl
      exact ⟨by decide, .str (repS z n), H, I.tok _, ⟨s.toks, by rw [e2]⟩, q⟩
    · split
      · next hn hz =>
        refine ⟨.str (repS z n), H, I, ⟨t, ?_⟩, q⟩
        have e : repS z n = z := by
          rw [Bool.or_eq_true] at hz
          rcases hz with hz | hz
          · have e1 : n = 1 := by simpa using hz
            subst e1
            show (⟨#[] ++ z.cps⟩ : Str) = z
            simp
          · have e1 : z.cps.size = 0 := by
              have e0 : z.length = 0 := by simpa using hz
              exact e0
            have e2 : z.cps = #[] := Array.eq_empty_of_size_eq_zero e1
            have e3 : z = ⟨#[]⟩ := by cases z; simp at e2; rw [e2]
            rw [e3]; unfold repS
            generalize n.toNat = k
            have : ∀ k : Nat, (List.replicate k (#[] : Array Nat)).foldl (· ++ ·) #[] = #[] := fun k => by
              induction k with
              | zero => rfl
              | succ k ih => rw [List.replicate_succ, List.foldl_cons]; simpa using ih
            rw [this]
        rw [e]
      · exact ⟨by
          show (repS z n).length ≤ sizeLine
          have e : (repS z n).length = 0 + n.toNat * z.cps.size := fold_size z.cps n.toNat #[]
          have e2 : z.length = z.cps.size := rfl
          rw [e, hz, Nat.mul_comm, ← e2]; omega, .str (repS z n), H, I.tok _, ⟨_, rfl⟩, q⟩
def dMul (m : Bool) : DOp := fun x y M Q => match res M x, y with
  | .int i, .int j => CMul i j ∧ Q (.int (i * j)) M
  | .str z, .int n => -(2 ^ 62) ≤ n ∧ n ≤ 100000 ∧ z.length * n.toNat ≤ 100000 ∧ PyData.strOk (repS z n) = true ∧ Q (.str (repS z n)) M
  | .lst ds, .int n => -(2 ^ 62) ≤ n ∧ n ≤ 100000 ∧ ds.length * n.toNat ≤ 100000 ∧ newL m (List.replicate n.toNat ds).flatten M Q
  | _, _ => False
theorem repL_rep {K : PySem.W.Frag} {G : Hp} {ds : List D} {vs : List V} (r : RepL K G ds vs) : ∀ n : Nat, RepL K G (List.replicate n ds).flatten (List.replicate n vs).flatten
  | 0 => rfl
  | n + 1 => by rw [List.replicate_succ, List.replicate_succ, List.flatten_cons, List.flatten_cons]; exact RepL.append r (repL_rep r n)
theorem rep_flat_len {α : Type} (l : List α) : ∀ n : Nat, (List.replicate n l).flatten.length = l.length * n
  | 0 => rfl
  | n + 1 => by rw [List.replicate_succ, List.flatten_cons, List.length_append, rep_flat_len l n, Nat.mul_succ]; omega
def rMulX : R2 := fun x y H Q => rI CMul (fun i j => .int (i * j)) x y H Q ∨ rMulS x y H Q ∨ rRep x y H Q
theorem o_mul {X : Cx} (m : Bool) : QOp X (binaryOp .Mult) rMulX (dMul m) := ⟨OpR.or op_mul (OpR.or op_mulS op_rep), fun G H p M s x y v u Q Q' S r1 r2 h k => by
  unfold dMul at h
  split at h
  · next i j e =>
    cases as_int r1 e
    cases r2
    exact .inl ⟨i, j, rfl, rfl, h.1, k G H M (.int (i * j)) _ (Same.refl _) S rfl h.2⟩
  · next z n e =>
    obtain ⟨rfl, _, _⟩ := as_str r1 e
    cases r2
    obtain ⟨h1, h2, h3, h4, h5⟩ := h
    refine .inr (.inl ⟨z, n, rfl, rfl, h1, h2, h3, k G H M (.str (repS z n)) _ (Same.refl _) S (okS_rep ⟨?_, h4⟩) h5⟩)
    have e : (repS z n).length = 0 + n.toNat * z.cps.size := fold_size z.cps n.toNat #[]
    have e2 : z.length = z.cps.size := rfl
    rw [e, Nat.mul_comm, ← e2]; omega
  · next ds n e =>
    obtain ⟨a, vs, rfl, g1, g2, g3⟩ := as_lst S r1 e
    cases r2
    obtain ⟨h1, h2, h3, h4⟩ := h
    have hz := hz24
    have l1 := g2.length
    refine .inr (.inr ⟨a, n, vs, rfl, rfl, g1, by omega, by omega, by rw [l1]; omega, fun q hq => newL_ok S hq (repL_rep g2 _) ?_ h4 k⟩)
    rw [rep_flat_len, l1]; omega
  · exact h.elim⟩
/-- int(x) of a number, a truth, a text -/
def dIntX : DCa := fun ds M Q => match ds with
  | [x] => match res M x with
    | .int i => Q (.int i) M
    | .bl b => Q (.int (if b then 1 else 0)) M
    | .str z => match intText? z with
      | some n => z.length ≤ 640 ∧ Q (.int n) M
      | none => False
    | _ => False
  | _ => False
theorem c_intX {X : Cx} : QCa X (.type "int") (fun xs H Q => ((∃ i, xs = [.int i] ∧ Q (.int i) H) ∨ ∃ k, xs = [.bl k] ∧ Q (.int (if k then 1 else 0)) H) ∨ ∃ a n, xs = [.str a] ∧ PySem.intText? a = some n ∧ a.length ≤ 640 ∧ Q (.int n) H) dIntX :=
  ⟨CallR.or call_int1 call_int_str, fun G H p M s ds vs Q Q' S r h k => by
  unfold dIntX at h
  split at h
  · next x =>
    obtain ⟨v, rfl, r1⟩ := repL1 r
    split at h
    · next i e =>
      cases as_int r1 e
      exact .inl (.inl ⟨i, rfl, k G H M (.int i) _ (Same.refl _) S rfl h⟩)
    · next b e =>
      cases as_bl r1 e
      exact .inl (.inr ⟨b, rfl, k G H M (.int (if b then 1 else 0)) _ (Same.refl _) S rfl h⟩)
    · next z e =>
      obtain ⟨rfl, _, _⟩ := as_str r1 e
      split at h
      · next n en => exact .inr ⟨z, n, rfl, en, h.1, k G H M (.int n) _ (Same.refl _) S rfl h.2⟩
      · exact h.elim
    · exact h.elim
  · exact h.elim⟩
end DL
namespace DL
open PySem L2 PySem.NumText PySem.Calls
structure GlS (mg : Str → Option Value) (x z : Str) : Prop where
  ex : ∃ t, mg x = some (.str z t)
structure GlI (mg : Str → Option Value) (x : Str) (i : Int) : Prop where
  ex : ∃ t, mg x = some (.int i t)
section
variable {X : Cx} {W : WX} {pos : Pos}
theorem q_globS {x z : Str} (hg : Gl X x) (h : GlS X.mg x z) (hz : (decide (z.length ≤ 100000) && PyData.strOk z) = true := by decide +kernel) (hd : (x == ("__debug__" : Str)) = false := by decide) : QE X W (.Name x pos) (tC (.str z)) (qC (.str z)) := by
  obtain ⟨t, h⟩ := h.ex
  rw [Bool.and_eq_true] at hz
  exact q_glob hg h ⟨t, rfl⟩ (fun _ => ⟨rfl, sz1000 (of_decide_eq_true hz.1), hz.2⟩) hd
theorem q_globI {x : Str} {i : Int} (hg : Gl X x) (h : GlI X.mg x i) (hd : (x == ("__debug__" : Str)) = false := by decide) : QE X W (.Name x pos) (tC (.int i)) (qC (.int i)) := by
  obtain ⟨t, h⟩ := h.ex
  exact q_glob hg h ⟨t, rfl⟩ (fun _ => rfl) hd
end
end DL
namespace DL
open PySem L2
def tupAt : D → Option (List D)
  | .tup ds => some ds
  | .ktp ds => some ds
  | .xtp ds => some ds
  | _ => none
theorem tupAt_of {K : PySem.W.Frag} {G : Hp} {d : D} {v : V} {ds : List D} (r : Rep K G d v) (h : tupAt d = some ds) : ∃ a vs, v = .ref a ∧ SqT K G a vs ∧ RepL K G ds vs ∧ ds.length ≤ sizeLine := by
  cases d with
  | tup es =>
    cases h
    obtain ⟨a, vs, rfl, g1, g2, g3⟩ := r
    exact ⟨a, vs, rfl, .inl (.inl g1), g2, by rw [← g2.length]; exact g3⟩
  | ktp es =>
    cases h
    obtain ⟨a, vs, rfl, g1, g2, g3⟩ := r
    exact ⟨a, vs, rfl, g1, g2, by rw [← g2.length]; exact g3⟩
  | xtp es =>
    cases h
    obtain ⟨a, o, vs, rfl, g1, g0, g2, g3⟩ := r
    exact ⟨a, vs, rfl, .inl (.inr ⟨o, g1⟩), g2, by rw [← g2.length]; exact g3⟩
  | _ => cases h
end DL
namespace Tx20
open PySem L2 DL PyProof.Rows
def Asc (x : Str) : Prop := ∀ c ∈ x.cps.toList, c < 128
theorem ok_asc {x : Str} (h : Asc x) (hl : x.length ≤ 100000) : okS x := ⟨hl, by
  unfold PyData.strOk
  rw [← Array.all_toList, List.all_eq_true]
  intro c hc
  have := h c hc
  exact decide_eq_true (by omega)⟩
/-- x read up to here: the words done, the word begun -/
structure St (x : Str) (done : List Str) (cur : Str) : Prop where
  asc : Asc x
  at_ : KWd.scan (Txt.lower x) = (done, cur)
end Tx20
set_option maxHeartbeats 4000000
namespace DL
open PySem PySem.Spec PyProof.Rows L2
/-- a built-in exception class B over which own ones stand -/
def IniX (n i : String) (tl : List Value) : Prop := ∀ {prog : Program} {w : World} {A : Around} {R : Result → Shared → Prop} {h : Heap} {g : Array GenState} {d : Drawn} {t : Nat} {os : OsState} {nm q : Str} {C N : Addr} {bs bm : List Value} {hdct : Bool} {sn : List Str} {sub : List Value} {ab : Bool} {col : Option Bool} {dd : Option Addr} {k0 k1 k2 k3 k5 : Option Value} {e t0 : Addr} {rest : List Value},
  (∀ Y : String, bm.contains (.type Y) = tl.contains (.type Y)) → h.get? C = some (excClassObj nm q C N bs bm hdct sn sub ab col dd k0 k1 k2 k3 k5 n) → h.get? e = some (HandSPX.excO C t0) → rest.length ≤ sizeLine →
  (∀ h' t1, (∀ b o, b ≠ e → h.get? b = some o → h'.get? b = some o) → h'.get? e = some (HandSPX.excO C t1) → R (.ok (.ret .none)) ⟨h', g, d, t, os⟩) → codeAny (model prog w) A (.call (.builtin i) ⟨.ref e :: rest, []⟩) R ⟨h, g, d, t, os⟩
def CalX (n : String) (tl : List Value) : Prop := ∀ {prog : Program} {w : World} {A : Around} {R : Result → Shared → Prop} {h : Heap} {g : Array GenState} {d : Drawn} {t : Nat} {os : OsState} {nm q : Str} {C N : Addr} {bs bm : List Value} {hdct : Bool} {sn : List Str} {sub : List Value} {ab : Bool} {col : Option Bool} {dd : Option Addr} {k0 k1 k2 k3 k5 : Option Value} {rest : List Value} {fI : Addr},
  (∀ Y : String, bm.contains (.type Y) = tl.contains (.type Y)) → h.get? C = some (excClassObj nm q C N bs bm hdct sn sub ab col dd k0 k1 k2 k3 k5 n) →
  PySem.W.Looks (model prog w) h (typeLookup (.ref C) "__init__") (some (.ref fI)) → (∀ self, PySem.W.Looks (model prog w) h (bindSpecial (.ref fI) self) (.ref fI, [self])) → rest.length ≤ sizeLine →
  codeAny (model prog w) (A.under (.builtin "type.__call__" ⟨.ref C :: rest, []⟩)) (.call (.ref fI) ⟨.ref (h.objs.size + 1) :: rest, []⟩) (PySem.W.InitBack (h.objs.size + 1) R) ⟨(h.push (PySem.W.kdv_tup rest)).push (HandSPX.excO C h.objs.size), g, d, t, os⟩ →
  codeAny (model prog w) A (.call (.ref C) ⟨rest, []⟩) R ⟨h, g, d, t, os⟩
structure BaseX (B n i : String) (tl : List Value) : Prop where
  ini : IniX n i tl
  cal : CalX n tl
  sf : StoreFacts B tl "object.__setattr__" "object"
  ty : typeOf (.type B) = pure (.type "type")
  nd : (Value.type B == Value.type "type") = false
theorem BaseX.of {B n i : String} {tl : List Value} (fb : ExcBaseFacts B n i tl) (sf : StoreFacts B tl "object.__setattr__" "object") (ty : typeOf (.type B) = pure (.type "type")) (nd : (Value.type B == Value.type "type") = false) : BaseX B n i tl :=
  { ini := fun hT hC he hz hq => HandSPX.init_base fb hT hC he hz hq, cal := fun hT hC li lb hz hq => HandSPX.call_own fb hT hC li lb hz hq, sf := sf, ty := ty, nd := nd }
/-- what the written part says of the own class at C, straight over it -/
structure XB (K : PySem.W.Frag) (C : Addr) (n : String) (tl : List Value) : Prop where
  cls : ∃ nm q N bs bm sn sub ab col dd k0 k1 k2 k3 k5, K.lookup C = some (excClassObj nm q C N bs bm true sn sub ab col dd k0 k1 k2 k3 k5 n) ∧ PySem.W.excTail tl bm = true
  sa : PySem.W.findIn K (.ref C) "__setattr__" = some (some (.builtin "object.__setattr__"))
  exC : PySem.W.subIn K (.ref C) (.type "BaseException") = some true
  tyC : PySem.W.typeIn K (.ref C) = some (.type "type")
  kC : PySem.W.keepIn K (.ref C) = true
theorem XB.over {K : PySem.W.Frag} {C : Addr} {n : String} {tl : List Value} (T : XB K C n tl) : PySem.W.excOver K C tl = true ∧ ∃ cd, PySem.W.clsIn K C = some cd ∧ cd.hasDict = true := by
  obtain ⟨nm, q, N, bs, bm, sn, sub, ab, col, dd, k0, k1, k2, k3, k5, hC, hbm⟩ := T.cls
  have hcl : PySem.W.clsIn K C = some { name := nm, bases := bs, mro := .ref C :: bm, ns := N, qualname := q, hasDict := true, slotNames := sn, subclasses := sub, abstract := ab, collection := col, hasDel := false } := by
    unfold PySem.W.clsIn; rw [hC] <;> rfl
  refine ⟨?_, _, hcl, rfl⟩
  unfold PySem.W.excOver
  rw [hcl]
  simp [Option.any, hbm]
theorem taker_none {K : PySem.W.Frag} {C : Addr} {f : Str} (h : PySem.W.findIn K (.ref C) f = some none) : PySem.W.takerIn K C f = some none := by
  unfold PySem.W.takerIn; rw [h]; rfl
abbrev exF (t1 : Addr) : Array Value := #[.ref t1, .none, .none, .none, .bool false, .none]
section
variable {prog : Program} {w : World} {A : Around} {R : Result → Shared → Prop} {hp : Heap} {g : Array GenState} {d : Drawn} {t : Nat} {os : OsState} {B n i : String} {tl : List Value} {K : PySem.W.Frag}
theorem first_store {f : Str} {tk : Tok} {v : Value} {x C : Addr} {fv : Array Value} (F : BaseX B n i tl) (T : XB K C n tl) (X : K.In hp) (hx : hp.get? x = some { cls := .ref C, data := .fields fv }) (hf : PySem.W.findIn K (.ref C) f = some none)
    (hq : ∀ h' tk' dx, (∀ b o, b ≠ x → hp.get? b = some o → h'.get? b = some o) → hp.objs.size ≤ dx → dx ≠ x → h'.get? x = some { cls := .ref C, dict := some dx, data := .fields fv } →
      h'.Ns1 dx (fun y => if y = f then some v else none) → R (.ok (.ret .none)) ⟨h', g, d, tk', os⟩) :
    codeAny (model prog w) A (.call (.builtin "object.__setattr__") ⟨[.ref x, .str f tk, v], []⟩) R ⟨hp, g, d, t, os⟩ := by
  obtain ⟨ov, cd, hcd, hdt⟩ := T.over
  have hxs : x ≠ hp.objs.size := Nat.ne_of_lt (Heap.lt_size hx)
  have L : PySem.W.Looks (model prog w) hp (classData C) cd := PySem.W.looks_clsIn X hcd
  refine PySem.W.osa_openX (s := ⟨hp, g, d, t, os⟩) (od := none) F.sf X ⟨hx, rfl, rfl, trivial⟩ ov (taker_none hf) fun b => ?_
  show wpAny _ _ (Builtin.ObjectAttr.storeInOwnDict (.ref x) (.ref C) (.str f tk) f v b) _ _ _
  obtain ⟨nm, bs, mro, ns, qn, hd, sn, sb, ab, col, dl⟩ := cd
  dsimp only at hdt
  subst hdt
  unfold Builtin.ObjectAttr.storeInOwnDict Builtin.ObjectAttr.ownDictForStores
  repeat (first | with_reducible refine HandSPX.store_in_new ?_ ?_ | with_reducible refine wpAny_loadPart_at hx ?_ | with_reducible refine L.at ?_ | wp_step)
  · exact ⟨_, #[], _, (Heap.get?_update_ne _ _ _ _ hxs.symm).trans (Heap.get?_push_at rfl rfl), rfl, fun e he => absurd he (by simp), fun _ => rfl⟩
  · intro h' tk' hn' hs
    have hx1 : (hp.push { cls := .type "dict", data := .dict #[] }).get? x = some { cls := .ref C, data := .fields fv } := Heap.get?_push_of_some _ hx
    refine hq h' tk' hp.objs.size (fun b o hb ho => ?_) (Nat.le_refl _) hxs.symm ((hs.2 x hxs).trans (Heap.get?_update_self _ hx1 rfl)) hn'
    exact (hs.2 b (Nat.ne_of_lt (Heap.lt_size ho))).trans ((Heap.get?_update_ne _ _ _ _ hb).trans (Heap.get?_push_of_some _ ho))
theorem next_store {f : Str} {tk : Tok} {v : Value} {x C dx : Addr} {fv : Array Value} {m0 : Str → Option Value} {nl : List Str} (F : BaseX B n i tl) (T : XB K C n tl) (X : K.In hp) (hx : hp.get? x = some { cls := .ref C, dict := some dx, data := .fields fv })
    (hns : hp.Ns1 dx m0) (hw : Within m0 nl) (hz : nl.length ≤ 1000) (hf : PySem.W.findIn K (.ref C) f = some none)
    (hq : ∀ h' tk', (∀ b o, b ≠ dx → hp.get? b = some o → h'.get? b = some o) → h'.Ns1 dx (fun y => if y = f then some v else m0 y) → R (.ok (.ret .none)) ⟨h', g, d, tk', os⟩) :
    codeAny (model prog w) A (.call (.builtin "object.__setattr__") ⟨[.ref x, .str f tk, v], []⟩) R ⟨hp, g, d, t, os⟩ := by
  obtain ⟨ov, cd, hcd, hdt⟩ := T.over
  have L : PySem.W.Looks (model prog w) hp (classData C) cd := PySem.W.looks_clsIn X hcd
  obtain ⟨oD, esD, epD, hoD, hdD, _⟩ := hns.count hw
  refine PySem.W.osa_openX (s := ⟨hp, g, d, t, os⟩) (od := some oD) F.sf X ⟨hx, rfl, rfl, hoD⟩ ov (taker_none hf) fun b => ?_
  show wpAny _ _ (Builtin.ObjectAttr.storeInOwnDict (.ref x) (.ref C) (.str f tk) f v b) _ _ _
  obtain ⟨nm, bs, mro, ns, qn, hd, sn, sb, ab, col, dl⟩ := cd
  dsimp only at hdt
  subst hdt
  unfold Builtin.ObjectAttr.storeInOwnDict Builtin.ObjectAttr.ownDictForStores
  repeat (first | with_reducible refine OEX.store_in_old hns hw hz ?_ | with_reducible refine wpAny_loadPart_at hx ?_ | with_reducible refine L.at ?_ | wp_step)
  exact fun h' tk' hn' hs => hq h' tk' (fun b o hb ho => (hs.2 b hb).trans ho) hn'
end
section
variable {X : Cx} {pins : List (Addr × Obj)} {σ : L2.St} {H : Hp} {s : Shared} {a C dx : Addr} {f : Str} {y : V} {u : Value} {fs : List (Str × V)} {Q : Unit → Shared → Prop} {E : Value → Shared → Prop} {A : Around} {B n i : String} {tl : List Value}
/-- self.f = y, the first one -/
theorem set_first (F : BaseX B n i tl) (T : XB X.K C n tl) (I : Inv X pins σ H s) (e : H a = some (exo a C none)) (hno : PySem.W.findIn X.K (.ref C) f = some none) (ry : RelV y u)
    (h : ∀ dx s', H dx = none → dx ≠ a → Inv X pins σ (upd (upd H dx (exd dx [(f, y)])) a (exo a C (some dx))) s' → Q () s') : wpAny (model X.prog X.w) A (setAttr (.ref a) f u) Q E s := by
  obtain ⟨t1, ho⟩ := exo_at I.hok e
  obtain ⟨hp, g, d, t, os⟩ := s
  refine PySem.W.set_plain I.kIn (ox := { cls := .ref C, dict := none, data := .fields (exF t1) }) (od := none) ⟨ho, rfl, rfl, trivial⟩ T.sa ?_
  refine first_store F T I.kIn ho hno fun h' tk' dx k dn dne hx hn => ?_
  have hnd : H dx = none := I.hok.fresh dn
  have na : ∀ {b : Addr}, H b = none → b ≠ a := fun {b} z q => by rw [q, e] at z; cases z
  have U : Un X.fs [] H (upd (upd H dx (exd dx [(f, y)])) a (exo a C (some dx))) hp h' :=
    ⟨fun b o q z _ _ => k b o (na z) q, fun b o q z _ _ => ⟨o.slots, k b o (na z) q⟩,
      fun b o q z _ => (upd_ne (na z)).trans ((upd_ne (Nat.ne_of_lt (Nat.lt_of_lt_of_le (Heap.lt_size q) dn))).trans z),
      fun b o q _ => (Classical.em (b = a)).elim (fun z => ⟨_, z ▸ hx⟩) fun z => ⟨o, k b o z q⟩,
      fun b xs q => (upd_ne (at_ne e q exo_tup)).trans ((upd_ne (ne_of_none q hnd)).trans q),
      fun b o v q => (upd_ne (at_ne e q exo_frz)).trans ((upd_ne (ne_of_none q hnd)).trans q),
      fun b ps q => ⟨#[], by rw [upd_ne (at_ne e q exo_tbl), upd_ne (ne_of_none q hnd), q]; simp⟩⟩
  refine h dx _ hnd dne (I.un (t' := tk') U fun b o q => ?_)
  rcases Classical.em (b = a) with z | hb
  · subst z; rw [upd_same] at q; cases q; exact exo_ok hx
  rw [upd_ne hb] at q
  rcases Classical.em (b = dx) with z | hd
  · subst z; rw [upd_same] at q; cases q; exact exd_ok hn (relO_put (fs := []) ry fun _ => trivial)
  rw [upd_ne hd] at q
  refine (I.hok b o q).stay (fun c v hc z => k c v ?_ z) (fun c hc => (upd_ne (at_ne e hc exo_own)).trans ((upd_ne (ne_of_none hc hnd)).trans hc)) fun c xs hc => (upd_ne (at_ne e hc exo_tup)).trans ((upd_ne (ne_of_none hc hnd)).trans hc)
  exact hc.elim (fun z => z ▸ hb) fun z => at_ne e z exo_own
/-- .. a further one -/
theorem set_next (F : BaseX B n i tl) (T : XB X.K C n tl) (I : Inv X pins σ H s) (e : H a = some (exo a C (some dx))) (ed : H dx = some (exd dx fs)) (hl : fs.length ≤ 900) (hno : PySem.W.findIn X.K (.ref C) f = some none) (ry : RelV y u)
    (h : ∀ s', Inv X pins σ (upd H dx (exd dx ((f, y) :: fs))) s' → Q () s') : wpAny (model X.prog X.w) A (setAttr (.ref a) f u) Q E s := by
  obtain ⟨t1, ho⟩ := exo_at I.hok e
  obtain ⟨mA, hns, rel⟩ := exd_at I.hok ed
  obtain ⟨hp, g, d, t, os⟩ := s
  obtain ⟨oD, _, _, hoD, _, _⟩ := hns.count (within_of rel)
  refine PySem.W.set_plain I.kIn (ox := { cls := .ref C, dict := some dx, data := .fields (exF t1) }) (od := some oD) ⟨ho, rfl, rfl, hoD⟩ T.sa ?_
  refine next_store F T I.kIn ho hns (within_of rel) (by rw [List.length_map]; omega) hno fun h' tk' k hn => ?_
  exact h _ (I.write (t' := tk') (x := dx) (e := dx) (o := exd dx ((f, y) :: fs)) (by rw [ed]; trivial) (.inl rfl) k (by obtain ⟨o, _, _, z, _⟩ := hn; exact ⟨o, z⟩) (exd_ok hn (relO_put ry rel)))
/-- B.__init__(self, ..): nothing of it is told -/
theorem base_init {us : List Value} {Q : Value → Shared → Prop} (F : BaseX B n i tl) (T : XB X.K C n tl) (I : Inv X pins σ H s) (e : H a = some (exo a C none)) (hl : us.length ≤ sizeLine) (h : ∀ s', Inv X pins σ H s' → Q .none s') :
    wpAny (model X.prog X.w) A (call (.builtin i) (.ref a :: us)) Q E s := by
  obtain ⟨nm, q, N, bs, bm, sn, sub, ab, col, dd, k0, k1, k2, k3, k5, hC, hbm⟩ := T.cls
  obtain ⟨t1, ho⟩ := exo_at I.hok e
  obtain ⟨hp, g, d, t, os⟩ := s
  refine wpAny_call (F.ini (fun Y => PySem.W.excTail_contains Y bm hbm) (I.kIn _ _ hC) ho hl fun h' t2 k hx => ?_)
  have I2 : Inv X pins σ (upd H a (exo a C none)) ⟨h', g, d, t, os⟩ := I.write (t' := t) (x := a) (e := a) (o := exo a C none) (by rw [e]; trivial) (.inl rfl) k ⟨_, hx⟩ (exo_ok hx)
  have eH : upd H a (exo a C none) = H := by funext b; by_cases z : b = a <;> simp [upd, z, e]
  rw [eH] at I2
  exact h _ I2
end
def tBInit (K : PySem.W.Frag) (n : String) (tl : List Value) (ta : TA) : TE := fun σ H Q => ta σ H fun vs H1 => ∃ (a C : Addr) (ws : List V), vs = .ref a :: ws ∧ ws.length ≤ 1000 ∧ XB K C n tl ∧ H1 a = some (exo a C none) ∧ Q .non H1
def tXSet (K : PySem.W.Frag) (n : String) (tl : List Value) (f : Str) (to te : TE) : TS := fun D σ H => te σ H fun y H1 => to σ H1 fun x H2 => ∃ a C : Addr, x = .ref a ∧ XB K C n tl ∧ PySem.W.findIn K (.ref C) f = some none ∧
  ((H2 a = some (exo a C none) ∧ ∀ dx, H2 dx = none → dx ≠ a → D.nx σ (upd (upd H2 dx (exd dx [(f, y)])) a (exo a C (some dx)))) ∨
    ∃ (dx : Addr) (fs : List (Str × V)), H2 a = some (exo a C (some dx)) ∧ H2 dx = some (exd dx fs) ∧ fs.length ≤ 900 ∧ D.nx σ (upd H2 dx (exd dx ((f, y) :: fs))))
section
variable {X : Cx} {o e : Expr} {es : List Expr} {to te : TE} {ta : TA} {f : Str} {p p' p1 p2 pos : Pos} {B n i : String} {tl : List Value}
theorem pe_binit {pl : Sem Bool} (F : BaseX B n i tl) (hg : Gl X (PySem.Str.ofString B)) (hm : X.mg (PySem.Str.ofString B) = none) (bt : bootBuiltins (PySem.Str.ofString B) = some (.type B))
    (vV : PySem.W.findCls X.K (.type B) (.type "type") "__init__" = some (.val (.builtin i))) (ha : PA X (e :: es) ta) (hst : Manifest.isStub B = false := by decide +kernel) (hhi : PySem.W.handedIn (.builtin i) = true := by decide +kernel)
    (hnn : (PySem.Str.ofString B) ≠ "__name__" := by decide) (hdb : ((PySem.Str.ofString B) == ("__debug__" : Str)) = false := by decide)
    (hc : eval (.Call (.Attribute (.Name (PySem.Str.ofString B) p1) "__init__" p2) (e :: es) [] pos) X.env = (do
      let ov ← eval (.Name (PySem.Str.ofString B) p1) X.env; standAt p2.atName
      let (f, first) ← holding [ov] (getMethod ov "__init__" pl); callWith pos f first (backTo pos (starEach (e :: es) X.env)) (backToKw pos (keywordEach [] X.env))) := by rfl)
    (he : starEach (e :: es) X.env = (false, eval e X.env) :: starEach es X.env := by rfl) (hpl : (backTo pos (starEach es X.env)).any (·.1) = false := by rfl) :
    PE X (.Call (.Attribute (.Name (PySem.Str.ofString B) p1) "__init__" p2) (e :: es) [] pos) (tBInit X.K n tl ta) := by
  refine ⟨fun pins s σ H Q I h => ?_⟩
  refine PySem.W.methodCall_KW (ld_blt I hg hm bt ?_ hnn hdb) hc
  obtain ⟨m, fr⟩ := I.fr
  refine PySem.W.method_type fr I.ok.mod.kin F.ty hst vV hhi ?_
  show wpAny _ _ (callWith pos (Value.builtin i) [] (backTo pos (starEach (e :: es) X.env)) []) _ _ _
  refine PyProof.Rows.callWith_method1 (thn (ha.run pos pins _ σ H _ (I.tok _) h) fun us s1 ⟨vs, H1, I1, r1, a, C, ws, ev, hl, T, ea, q⟩ => ?_) he hpl
  subst ev
  cases r1 with
  | @cons _ u0 _ ur ra rw' =>
    obtain rfl : u0 = Value.ref a := ra
    exact base_init F T I1 ea (by rw [← Paired.length rw', sizeLine_eq]; omega) fun s' J => ⟨.non, H1, J, rfl, q⟩
theorem ps_xset (F : BaseX B n i tl) (ho : PE X o to) (he : PE X e te) (hs : swapsWith e (some (.Attribute o f p')) pos.line X.env = pure false := by rfl) : PS X (.Assign [.Attribute o f p'] e pos) (tXSet X.K n tl f to te) := by
  refine ⟨fun pins s σ H D I h => ?_⟩
  refine plainObj_wpAny_Assign_Attribute (thn (he.run pins s σ H _ I h) fun v s1 ⟨y, H1, I1, r1, q1⟩ => thn (ho.run pins s1 σ H1 _ I1 q1) fun u s2 hh => ?_) hs
  obtain ⟨x, H2, I2, r2, a, C, ex, T, hno, q⟩ := hh
  subst ex
  obtain rfl : u = Value.ref a := r2
  rcases q with ⟨ea, q⟩ | ⟨dx, fs, ea, ed, hl, q⟩
  · exact set_first F T I2 ea hno r1 fun dx s' n ne J => ⟨σ, _, J, q dx n ne⟩
  · exact set_next F T I2 ea ed hl hno r1 fun s' J => ⟨σ, _, J, q⟩
theorem pmk_xb {CX : CXT} {x : Str} {C fI : Addr} {k : Nat} {fd : FuncData} {ps : List Str} {sp : Sp} (F : BaseX B n i tl) (T : XB X.K C n tl) (iC : PySem.W.findIn X.K (.ref C) "__init__" = some (some (.ref fI))) (tI : PySem.W.typeIn X.K (.ref fI) = some (.type "function"))
    (F1 : FnOk X.prog X.w X.K X.mg X.base CX k fI fd ps sp) (hr : Room (k + 1) X.A) (hb : Binds X.K fd ps []) (hx : Passes CX X (fun _ _ _ => False)) (hg : Gl X x) (hm : X.mg x = some (.ref C)) (ha : PA X (e :: es) ta)
    (hdb : (x == ("__debug__" : Str)) = false := by decide) (he : starEach (e :: es) X.env = (false, eval e X.env) :: starEach es X.env := by rfl) (hpl : (backTo pos (starEach es X.env)).any (·.1) = false := by rfl) :
    PMk X (.Call (.Name x p) (e :: es) [] pos) (tMkO C sp [] ta) := by
  intro pins s σ H Q I h
  obtain ⟨nm, q, N, bs, bm, sn, sub, ab, col, dd, k0, k1, k2, k3, k5, hC, hbm⟩ := T.cls
  refine wpAny_Call_Name_kw (ld_glob I hg hm ?_ hdb)
  refine PySem.W.callWith_K (h₀ := X.base) I.ok.mod.kin T.kC (thn (ha.run pos pins s σ H _ I h) fun us s1 hh => ?_) he hpl
  obtain ⟨vs, H1, I1, r1, hz, q1⟩ := hh
  refine ⟨I1.kIn, ?_⟩
  show wpAny _ _ (call (.ref C) us) _ _ _
  obtain ⟨hp, g, dr, tk, os⟩ := s1
  have hsz : hp.objs.size ≤ hp.objs.size + 1 := Nat.le_succ _
  have hq := q1 _ (I1.hok.fresh hsz)
  rw [List.append_nil] at hq
  generalize eh : (hp.push (PySem.W.kdv_tup us)).push (HandSPX.excO C hp.objs.size) = h9
  have kk : ∀ b o, hp.get? b = some o → h9.get? b = some o := fun b o e => by rw [← eh]; exact Heap.get?_push_of_some _ (Heap.get?_push_of_some _ e)
  have hget : h9.get? (hp.objs.size + 1) = some (HandSPX.excO C hp.objs.size) := by rw [← eh]; heap_get
  have I2 : Inv X pins σ (upd H1 (hp.objs.size + 1) (exo (hp.objs.size + 1) C none)) ⟨h9, g, dr, tk, os⟩ := I1.laid (t' := tk) (a := hp.objs.size + 1) (o := exo (hp.objs.size + 1) C none) (h' := h9) kk hsz (exo_ok hget)
  have r2 : Vals (V.ref (hp.objs.size + 1) :: vs) (Value.ref (hp.objs.size + 1) :: us) := .cons rfl r1
  have hl : (Value.ref (hp.objs.size + 1) :: us).length = ps.length := r2.length.symm.trans (F1.len _ _ _ _ hq)
  have hb' : BindsTo ⟨h9, g, dr, tk, os⟩ fd ⟨Value.ref (hp.objs.size + 1) :: us, []⟩ (ps.zip (Value.ref (hp.objs.size + 1) :: us)) := by
    have z := hb ⟨h9, g, dr, tk, os⟩ (Value.ref (hp.objs.size + 1) :: us) I2.kIn (by rw [List.append_nil]; exact hl)
    rw [List.append_nil] at z
    exact z
  refine wpAny_call (F.cal (fun Y => PySem.W.excTail_contains Y bm hbm) (I1.kIn _ _ hC) (PySem.W.looks_findIn I1.kIn iC) (fun self => PySem.W.bind_fn I1.kIn self tI) (by rw [← Paired.length r1, sizeLine_eq]; omega) ?_)
  rw [eh]
  refine codeAny_mono (F1.run _ X.stack _ _ ⟨Value.ref (hp.objs.size + 1) :: us, []⟩ (Value.ref (hp.objs.size + 1) :: us) _ _ (fun _ _ _ => False) (hr.make C us []) (I2.env0.make C us []) hb' r2 hq) fun r s' hq' => ?_
  match r, hq' with
  | .error er, z => exact hx pins σ _ _ er s' I2 z
  | .ok .next, z => exact z.elim
  | .ok .brk, z => exact z.elim
  | .ok .cont, z => exact z.elim
  | .ok (.ret u), ⟨v, H2, os2, bare2, un2, hok2, rv, ev, d, fs, ea, ed, hd1, q2⟩ =>
    subst ev
    obtain ⟨h2, g2, d2, t2, os'⟩ := s'
    exact ⟨rv, mk_end (raises_own T.exC T.tyC) I1 hsz kk un2 hok2 os2 bare2 ea ed hd1 q2⟩
end
def spX2 (C : Addr) (f1 f2 : Str) : Sp := fun vs H Q _ => ∃ (a : Addr) (v1 v2 : V), vs = [.ref a, v1, v2] ∧ H a = some (exo a C none) ∧
  ∀ dx, H dx = none → dx ≠ a → Q .non (upd (upd (upd H dx (exd dx [(f1, v1)])) a (exo a C (some dx))) dx (exd dx [(f2, v2), (f1, v1)]))
section
variable {K : PySem.W.Frag} {C : Addr} {n : String} {tl : List Value} {f g txt x y z : Str} {vs : List V} {H : Hp} {Q : VK} {E : XK}
theorem rdX2 (T : XB K C n tl) (no1 : PySem.W.findIn K (.ref C) f = some none) (no2 : PySem.W.findIn K (.ref C) g = some none) (h : spX2 C f g vs H Q E) :
    tSeq (tDrop (tBInit K n tl (tCons (tVar 0) (tCons (tC (.str txt)) tNil)))) (tSeq (tXSet K n tl f (tVar 0) (tVar 1)) (tXSet K n tl g (tVar 0) (tVar 2))) { nx := fun _ H' => Q .non H', rt := Q } (L2.start [x, y, z] vs) H := by
  obtain ⟨a, v, w, rfl, e, h⟩ := h
  refine ⟨.ref a, rfl, a, C, [.str txt], rfl, by simp, T, e, v, rfl, .ref a, rfl, a, C, rfl, T, no1, .inl ⟨e, fun dx h1 h2 => ?_⟩⟩
  exact ⟨w, rfl, .ref a, rfl, a, C, rfl, T, no2, .inr ⟨dx, [(f, v)], upd_same, by rw [upd_ne h2, upd_same], by simp, h dx h1 h2⟩⟩
end
theorem upd_del2 {H : Hp} {a d : Addr} {u w z y o : HO} (h : H a = none) : upd (L2.del (upd (upd (upd (upd H a z) d w) a u) d y) a) d o = upd H d o := by
  funext b
  by_cases h1 : b = d
  · subst h1; rw [upd_same, upd_same]
  · rw [upd_ne h1, upd_ne h1]
    by_cases h2 : b = a
    · subst h2; rw [del_same, h]
    · rw [del_ne h2, upd_ne h1, upd_ne h2, upd_ne h1, upd_ne h2]
/-- what isinstance asks of an exception's class -/
structure KxC (K : PySem.W.Frag) (C : Addr) : Prop where
  hcl : (PySem.W.clsIn K C).isSome = true
  hga : PySem.W.findIn K (.ref C) "__getattribute__" = some (some (.builtin "BaseException.__getattribute__"))
  hgt : PySem.W.findIn K (.ref C) "__getattr__" = some none
  hsub : PySem.W.subIn K (.ref C) (.type "BaseException") = some true
  ha : PySem.W.findIn K (.ref C) "__class__" = some (some (.builtin "object.__class__"))
  hn : PySem.W.specialIn K (.builtin "object.__class__") "__get__" = some (some (.builtin "getset_descriptor.__get__"))
  htk : PySem.W.takesIn K (.builtin "object.__class__") = some true
  hm : PySem.W.mroIn K C (.type "object") = some true
/-- an own exception class with an __init__ that stores: where it stands -/
structure XAt (K : PySem.W.Frag) (mg : Str → Option Value) (x : Str) (B n i : String) (tl : List Value) (st : Stmt) (q : Str) (ps : List Str) (fs : List Str) where
  C : Addr
  fI : Addr
  fd : FuncData
  g : mg x = some (.ref C)
  T : XB K C n tl
  iC : PySem.W.findIn K (.ref C) "__init__" = some (some (.ref fI))
  tI : PySem.W.typeIn K (.ref fI) = some (.type "function")
  F : Fun K "__init__" q st fI fd
  b : Binds K fd ps []
  no : ∀ f ∈ fs, PySem.W.findIn K (.ref C) f = some none
  hdC : PySem.W.hasDictIn K C = true
  te : PySem.W.exmOne K (.ref C) (.ref C) = some true
  vV : PySem.W.findCls K (.type B) (.type "type") "__init__" = some (.val (.builtin i))
  kx : KxC K C
/-- .. as a fact of the addresses -/
structure XAtP (K : PySem.W.Frag) (mg : Str → Option Value) (x : Str) (B n i : String) (tl : List Value) (ps : List Str) (C fI : Addr) (fd : FuncData) : Prop where
  g : mg x = some (.ref C)
  T : XB K C n tl
  iC : PySem.W.findIn K (.ref C) "__init__" = some (some (.ref fI))
  tI : PySem.W.typeIn K (.ref fI) = some (.type "function")
  b : Binds K fd ps []
theorem XAt.p {K : PySem.W.Frag} {mg : Str → Option Value} {x : Str} {B n i : String} {tl : List Value} {st : Stmt} {q : Str} {ps fs : List Str} (T : XAt K mg x B n i tl st q ps fs) : XAtP K mg x B n i tl ps T.C T.fI T.fd := ⟨T.g, T.T, T.iC, T.tI, T.b⟩
@[simp] def qRaise (C : Addr) (fs : List Str) (qa : DTA) : DTS := fun DW DE p M => qa DW p M fun ds M1 => ds.length = fs.length ∧ DW ⟨.ref C, (fs.zip ds).reverse⟩ p M1
section
variable {X : Cx} {W : WX} {e : Expr} {es : List Expr} {ta : TA} {qa : DTA} {p pos pos2 : Pos} {B n i : String} {tl : List Value} {x f f2 : Str} {st : Stmt} {q : Str} {ps fs : List Str} {k : Nat}
theorem qs_raise2 (F : BaseX B n i tl) {C fI : Addr} {fd : FuncData} (T : XAtP X.K X.mg x B n i tl ps C fI fd) (F1 : FnOk X.prog X.w X.K X.mg X.base (L2.CX X.prog X.w) k fI fd ps (spX2 C f f2)) (hr : Room (k + 1) X.A) (tk : Takes X W) (hc : X.calm = true) (ha : QA X W (e :: es) ta qa) (hg : Gl X x := by rfl)
    (hdb : (x == ("__debug__" : Str)) = false := by decide) (he : starEach (e :: es) X.env = (false, eval e X.env) :: starEach es X.env := by rfl) (hpl : (backTo pos (starEach es X.env)).any (·.1) = false := by rfl) :
    QS X W (.Raise (some (.Call (.Name x p) (e :: es) [] pos)) none pos2) (fun _ σ H => tMkO C (spX2 C f f2) [] ta σ H fun cls d H' => W cls d σ H') (qRaise C [f, f2] qa) :=
  ⟨ps_raise hc tk (pmk_xb F T.T T.iC T.tI F1 hr T.b (passes_call tk fun _ _ _ _ z => z.elim) hg T.g ha.pe hdb he hpl), fun DW G H p M s DE E hw S h _ => by
    refine ha.rf DW G H p M s _ _ hw S h fun G1 H1 M1 ds vs e1 S1 r1 ⟨hl, h1⟩ => ?_
    obtain ⟨d, d2, rfl⟩ : ∃ d d2, ds = [d, d2] := by
      match ds, hl with
      | [d, d2], _ => exact ⟨d, d2, rfl⟩
    obtain ⟨v, _, rfl, r2, v2, _, rfl, r3, r4⟩ := r1
    cases r4
    refine ⟨by simp, fun a ea => ?_⟩
    refine ⟨a, v, v2, List.append_nil _ ▸ rfl, upd_same, fun dx h2 h3 => ?_⟩
    rw [upd_ne h3] at h2
    have q1 : upd (upd (upd (upd H1 a (exo a C none)) dx (exd dx [(f, v)])) a (exo a C (some dx))) dx (exd dx [(f2, v2), (f, v)]) a = some (exo a C (some dx)) := by rw [upd_ne (Ne.symm h3), upd_same]
    refine ⟨rfl, dx, [(f2, v2), (f, v)], q1, upd_same, h2, ?_⟩
    rw [upd_del2 ea]
    obtain ⟨e2, S2⟩ := S1.made (o := .xd [(f2, v2), (f, v)]) h2
    exact hw _ _ p M1 s ⟨.ref C, [(f2, d2), (f, d)]⟩ _ _ (e1.trans e2) S2 ⟨rfl, .inr ⟨dx, [(f2, v2), (f, v)], rfl, upd_same, rfl, RepL.mono e2 _ _ (RepL.cons r3 (RepL.cons r2 RepL.nil))⟩⟩ h1⟩
end
section
variable {X : Cx} {W : WX} {C a : Addr} {oe : Obj} {d : Option Addr} {pn : List (Addr × Obj)} {e : Expr} {te : TE} {qe : DTE} {f : Str} {pos : Pos}
def dIsX (a : Addr) (d : Option Addr) (b : Bool) (c : D) : DCa := fun ds M Q => ∃ ns ys, ds = [.exc a d ns ys, c] ∧ Q (.bl b) M
end
end DL
namespace DL
open PySem PySem.Spec PyProof.Rows L2
end DL
namespace DL
open PySem PySem.Spec PyProof.Rows L2
abbrev tl_ValueError : List Value := [.type "ValueError", .type "Exception", .type "BaseException", .type "object"]
theorem baseX_ValueError : BaseX "ValueError" "ValueError.__new__" "ValueError.__init__" tl_ValueError := .of F.excBase_ValueError F.store_ValueError (by kernel_rfl) (by decide +kernel)
theorem clsIn_some {K : PySem.W.Frag} {C : Addr} (h : PySem.W.hasDictIn K C = true) : (PySem.W.clsIn K C).isSome = true := by
  obtain ⟨cd, hc, _⟩ := PySem.W.any_some h
  rw [hc]; rfl
end DL
set_option maxHeartbeats 2000000
namespace DL
open PySem PySem.Spec PyProof.Rows L2
theorem strs_at {prog : Program} {w : World} : ∀ {kvs : List (Str × Value)} {us : List Value}, us.length = kvs.length → (∀ (j : Nat) (v : Value), us[j]? = some v → ∃ k x, kvs[j]? = some (k, x) ∧ (PySem.strKind prog w).is k v = true) → Vals (kvs.map fun q => V.str q.1) us
  | [], [], _, _ => .nil
  | [], _ :: _, h, _ => by cases h
  | _ :: _, [], h, _ => by cases h
  | (k, y) :: kvs, u :: us, hl, h => by
    obtain ⟨k', x, e1, e2⟩ := h 0 u rfl
    cases e1
    refine .cons ?_ (strs_at (prog := prog) (w := w) (by simpa using hl) fun j v e => by simpa using h (j + 1) v (by simpa using e))
    have e3 : Value.isStrOf k u = true := e2
    cases u with
    | str z t => exact ⟨t, by have : z = k := by simpa [Value.isStrOf] using e3
                              rw [this]⟩
    | _ => cases e3
end DL
namespace DL
open PySem L2
theorem eq_bb {neg : Bool} {x y : Bool} {M : Mst} {Q : DK} : dEq neg (.bl x) (.bl y) M Q = Q (.bl (xor neg (decide (x = y)))) M := by
  unfold dEq
  rw [res_bl, res_bl, deq_bl]
  have h1 : isData (.bl x) = true := rfl
  have h2 : isData (.bl y) = true := rfl
  have h3 : min (dep (.bl x)) (dep (.bl y)) ≤ 64 := by simp [dep, pyd, PyData.depth]
  simp [h1, h2, h3]
end DL
namespace Tx21
open PySem L2 DL PyProof.Rows Tx20
def Pr (x : Str) : Prop := ∀ c ∈ x.cps.toList, 32 ≤ c ∧ c ≤ 126
theorem Pr.asc {x : Str} (h : Pr x) : Asc x := fun c hc => by have := h c hc; omega
theorem pr_app {a b : Str} (ha : Pr a) (hb : Pr b) : Pr (a ++ b) := fun c hc => by
  rw [PySem.Str.cps_append, Array.toList_append, List.mem_append] at hc
  exact hc.elim (ha c) (hb c)
theorem pr_one {c : Nat} (h : 32 ≤ c ∧ c ≤ 126) : Pr ⟨#[c]⟩ := fun d hd => by simp at hd; subst hd; exact h
theorem pr_ok {x : Str} (h : Pr x) (hl : x.length ≤ 100000) : okS x := ok_asc h.asc hl
end Tx21
namespace DL
open PySem L2 Tx20 Tx21
abbrev lit (s : String) : Str := PySem.Str.ofString s
abbrev one (c : Nat) : Str := ⟨#[c]⟩
abbrev stL (ws : List Str) : D := .lst (ws.map .str)
section
variable {M : Mst} {Q : DK}
@[simp] theorem z_isi_int_int {i} : dIsi [.int i, .ty "int"] M Q = Q (.bl true) M := isi_one rfl (show isiB "int" "int" = some true by decide +kernel)
@[simp] theorem z_isi_int_bool {i} : dIsi [.int i, .ty "bool"] M Q = Q (.bl false) M := isi_one rfl (show isiB "int" "bool" = some false by decide +kernel)
@[simp] theorem z_isi_int_str {i} : dIsi [.int i, .ty "str"] M Q = Q (.bl false) M := isi_one rfl (show isiB "int" "str" = some false by decide +kernel)
@[simp] theorem z_isi_int_tup {i} : dIsi [.int i, .ty "tuple"] M Q = Q (.bl false) M := isi_one rfl (show isiB "int" "tuple" = some false by decide +kernel)
@[simp] theorem z_isi_int_lst {i} : dIsi [.int i, .ty "list"] M Q = Q (.bl false) M := isi_one rfl (show isiB "int" "list" = some false by decide +kernel)
@[simp] theorem z_isi_bl_int {i} : dIsi [.bl i, .ty "int"] M Q = Q (.bl true) M := isi_one rfl (show isiB "bool" "int" = some true by decide +kernel)
@[simp] theorem z_isi_bl_bool {i} : dIsi [.bl i, .ty "bool"] M Q = Q (.bl true) M := isi_one rfl (show isiB "bool" "bool" = some true by decide +kernel)
@[simp] theorem z_isi_bl_str {i} : dIsi [.bl i, .ty "str"] M Q = Q (.bl false) M := isi_one rfl (show isiB "bool" "str" = some false by decide +kernel)
@[simp] theorem z_isi_bl_tup {i} : dIsi [.bl i, .ty "tuple"] M Q = Q (.bl false) M := isi_one rfl (show isiB "bool" "tuple" = some false by decide +kernel)
@[simp] theorem z_isi_bl_lst {i} : dIsi [.bl i, .ty "list"] M Q = Q (.bl false) M := isi_one rfl (show isiB "bool" "list" = some false by decide +kernel)
@[simp] theorem z_isi_str_int {i} : dIsi [.str i, .ty "int"] M Q = Q (.bl false) M := isi_one rfl (show isiB "str" "int" = some false by decide +kernel)
@[simp] theorem z_isi_str_bool {i} : dIsi [.str i, .ty "bool"] M Q = Q (.bl false) M := isi_one rfl (show isiB "str" "bool" = some false by decide +kernel)
@[simp] theorem z_isi_str_str {i} : dIsi [.str i, .ty "str"] M Q = Q (.bl true) M := isi_one rfl (show isiB "str" "str" = some true by decide +kernel)
@[simp] theorem z_isi_str_tup {i} : dIsi [.str i, .ty "tuple"] M Q = Q (.bl false) M := isi_one rfl (show isiB "str" "tuple" = some false by decide +kernel)
@[simp] theorem z_isi_str_lst {i} : dIsi [.str i, .ty "list"] M Q = Q (.bl false) M := isi_one rfl (show isiB "str" "list" = some false by decide +kernel)
@[simp] theorem z_isi_non_int : dIsi [.non, .ty "int"] M Q = Q (.bl false) M := isi_one rfl (show isiB "NoneType" "int" = some false by decide +kernel)
@[simp] theorem z_isi_non_bool : dIsi [.non, .ty "bool"] M Q = Q (.bl false) M := isi_one rfl (show isiB "NoneType" "bool" = some false by decide +kernel)
@[simp] theorem z_isi_non_str : dIsi [.non, .ty "str"] M Q = Q (.bl false) M := isi_one rfl (show isiB "NoneType" "str" = some false by decide +kernel)
@[simp] theorem z_isi_non_tup : dIsi [.non, .ty "tuple"] M Q = Q (.bl false) M := isi_one rfl (show isiB "NoneType" "tuple" = some false by decide +kernel)
@[simp] theorem z_isi_non_lst : dIsi [.non, .ty "list"] M Q = Q (.bl false) M := isi_one rfl (show isiB "NoneType" "list" = some false by decide +kernel)
@[simp] theorem z_isi_tup_int {i} : dIsi [.tup i, .ty "int"] M Q = Q (.bl false) M := isi_one rfl (show isiB "tuple" "int" = some false by decide +kernel)
@[simp] theorem z_isi_tup_bool {i} : dIsi [.tup i, .ty "bool"] M Q = Q (.bl false) M := isi_one rfl (show isiB "tuple" "bool" = some false by decide +kernel)
@[simp] theorem z_isi_tup_str {i} : dIsi [.tup i, .ty "str"] M Q = Q (.bl false) M := isi_one rfl (show isiB "tuple" "str" = some false by decide +kernel)
@[simp] theorem z_isi_tup_tup {i} : dIsi [.tup i, .ty "tuple"] M Q = Q (.bl true) M := isi_one rfl (show isiB "tuple" "tuple" = some true by decide +kernel)
@[simp] theorem z_isi_tup_lst {i} : dIsi [.tup i, .ty "list"] M Q = Q (.bl false) M := isi_one rfl (show isiB "tuple" "list" = some false by decide +kernel)
@[simp] theorem z_isi_lst_int {i} : dIsi [.lst i, .ty "int"] M Q = Q (.bl false) M := isi_one rfl (show isiB "list" "int" = some false by decide +kernel)
@[simp] theorem z_isi_lst_bool {i} : dIsi [.lst i, .ty "bool"] M Q = Q (.bl false) M := isi_one rfl (show isiB "list" "bool" = some false by decide +kernel)
@[simp] theorem z_isi_lst_str {i} : dIsi [.lst i, .ty "str"] M Q = Q (.bl false) M := isi_one rfl (show isiB "list" "str" = some false by decide +kernel)
@[simp] theorem z_isi_lst_tup {i} : dIsi [.lst i, .ty "tuple"] M Q = Q (.bl false) M := isi_one rfl (show isiB "list" "tuple" = some false by decide +kernel)
@[simp] theorem z_isi_lst_lst {i} : dIsi [.lst i, .ty "list"] M Q = Q (.bl true) M := isi_one rfl (show isiB "list" "list" = some true by decide +kernel)
@[simp] theorem z_len_str {z : Str} : dLen [.str z] M Q = Q (.int z.length) M := by simp [dLen]
@[simp] theorem z_len_tup {ds : List D} : dLen [.tup ds] M Q = Q (.int ds.length) M := by simp [dLen]
@[simp] theorem z_len_xtp {ds : List D} : dLen [.xtp ds] M Q = Q (.int ds.length) M := by simp [dLen]
@[simp] theorem z_len_ktp {ds : List D} : dLen [.ktp ds] M Q = Q (.int ds.length) M := by simp [dLen]
@[simp] theorem z_add_str {m : Bool} {x y : Str} : dAdd m (.str x) (.str y) M Q = (x.length + y.length ≤ 100000 ∧ Q (.str (x ++ y)) M) := rfl
@[simp] theorem z_add_tup {m : Bool} {x y : List D} : dAdd m (.tup x) (.tup y) M Q = (x.length + y.length ≤ 100000 ∧ Q (.tup (x ++ y)) M) := rfl
@[simp] theorem z_eq_int {i j : Int} : dEq false (.int i) (.int j) M Q = Q (.bl (decide (i = j))) M := by rw [eq_int, Bool.false_xor]
@[simp] theorem z_ne_int {i j : Int} : dEq true (.int i) (.int j) M Q = Q (.bl (!decide (i = j))) M := by rw [eq_int, Bool.true_xor]
@[simp] theorem z_eq_str {i j : Str} : dEq false (.str i) (.str j) M Q = Q (.bl (decide (i = j))) M := by rw [eq_str, Bool.false_xor]
@[simp] theorem z_ne_str {i j : Str} : dEq true (.str i) (.str j) M Q = Q (.bl (!decide (i = j))) M := by rw [eq_str, Bool.true_xor]
@[simp] theorem z_eq_bl {i j : Bool} : dEq false (.bl i) (.bl j) M Q = Q (.bl (decide (i = j))) M := by rw [eq_bb, Bool.false_xor]
@[simp] theorem z_ne_bl {i j : Bool} : dEq true (.bl i) (.bl j) M Q = Q (.bl (!decide (i = j))) M := by rw [eq_bb, Bool.true_xor]
@[simp] theorem z_is {x : D} : dIs false x .non M Q = Q (.bl (isNon x)) M := by cases h : isNon x <;> simp [dIs, h]
@[simp] theorem z_isnot {x : D} : dIs true x .non M Q = Q (.bl (!isNon x)) M := by cases h : isNon x <;> simp [dIs, h]
@[simp] theorem z_neg {i : Int} : dNeg (.int i) M Q = Q (.int (-i)) M := rfl
@[simp] theorem z_inS {neg : Bool} {c z : Str} : dIn neg (.str c) (.str z) M Q = Q (.bl (xor neg (inS c z))) M := rfl
@[simp] theorem z_intX_i {i : Int} : dIntX [.int i] M Q = Q (.int i) M := rfl
@[simp] theorem z_intX_b {b : Bool} : dIntX [.bl b] M Q = Q (.int (if b = true then 1 else 0)) M := by cases b <;> rfl
theorem in_strs {neg : Bool} {z : Str} {zs : List Str} : dIn neg (.str z) (.lst (zs.map .str)) M Q = Q (.bl (xor neg (decide (z ∈ zs)))) M := by
  unfold dIn
  have a : (zs.map D.str).any (fun e => deq e (.str z)) = decide (z ∈ zs) := by
    rw [List.any_map]
    induction zs with
    | nil => simp
    | cons y ys ih => simp only [List.any_cons, ih, Function.comp, deq_str, List.mem_cons]; simp [eq_comm]
  have f : (zs.map D.str).all flatD = true := by rw [List.all_map, List.all_eq_true]; intro x _; rfl
  simp only [dgetD, res_lst, a, f, show flatD (.str z) = true from rfl, true_and]
theorem in_strsT {neg : Bool} {z : Str} {zs : List Str} : dIn neg (.str z) (.tup (zs.map .str)) M Q = Q (.bl (xor neg (decide (z ∈ zs)))) M := by
  unfold dIn
  have a : (zs.map D.str).any (fun e => deq e (.str z)) = decide (z ∈ zs) := by
    rw [List.any_map]
    induction zs with
    | nil => simp
    | cons y ys ih => simp only [List.any_cons, ih, Function.comp, deq_str, List.mem_cons]; simp [eq_comm]
  have f : (zs.map D.str).all flatD = true := by rw [List.all_map, List.all_eq_true]; intro x _; rfl
  simp only [dgetD, res_tup, a, f, show flatD (.str z) = true from rfl, true_and]
@[simp] theorem z_ix_l0 {d : D} {ds : List D} : dIx (.lst (d :: ds)) (.int 0) M Q = Q d M := ix_l atI_0
@[simp] theorem z_ix_t0 {d : D} {ds : List D} : dIx (.tup (d :: ds)) (.int 0) M Q = Q d M := ix_t atI_0
@[simp] theorem z_ix_t1 {d e : D} {ds : List D} : dIx (.tup (d :: e :: ds)) (.int 1) M Q = Q e M := ix_t atI_1
@[simp] theorem z_ix_l1 {d e : D} {ds : List D} : dIx (.lst (d :: e :: ds)) (.int 1) M Q = Q e M := ix_l atI_1
theorem pick_t {ds : List D} {r : Int} (h0 : 0 ≤ r) (h1 : r < ds.length) (h : ∀ d ∈ ds, Q d M) : dIx (.tup ds) (.int r) M Q := by
  obtain ⟨x, hx, hm⟩ := atI_some h0 h1
  rw [ix_t hx]; exact h x hm
theorem pick_s {z : Str} {r : Int} (h0 : 0 ≤ r) (h1 : r < z.length) (h : ∀ c ∈ z.cps.toList, Q (.str (one c)) M) : dIx (.str z) (.int r) M Q := by
  obtain ⟨x, hx, hm⟩ := atI_some (xs := z.cps.toList) h0 (by rw [Array.length_toList]; exact h1)
  unfold dIx
  simp only [dgetD, res_str, hx]
  exact h x hm
theorem ix_strs {ws : List Str} {i : Nat} {w : Str} (h : ws[i]? = some w) : dIx (stL ws) (.int (i : Int)) M Q = Q (.str w) M :=
  ix_l (by rw [atI_n, List.getElem?_map, h]; rfl)
theorem eq_i {neg : Bool} {i j : Nat} : dEq neg (.int (i : Int)) (.int (j : Int)) M Q = Q (.bl (xor neg (decide (i = j)))) M := by
  rw [eq_int]
  have : decide ((i : Int) = (j : Int)) = decide (i = j) := decide_eq_decide.mpr (by omega)
  rw [this]
theorem take_call {b : Addr} {n : Int} {E : DX → Mst → Prop} (hb : M b = some .bag) (h0 : 0 < n) (h1 : n < 1073741824) (h : ∀ r : Int, 0 ≤ r → r < n → Q (.int r) M) : spTake [.ref b, .int n] M Q E := ⟨b, n, rfl, hb, h0, h1, h⟩
end
theorem ne_of_some {M : Mst} {a b : Addr} {o : MO} (h : M a = some o) (g : M b = none) : a ≠ b := fun e => by rw [e, g] at h; cases h
theorem put_keep {M : Mst} {a b : Addr} {o u : MO} (h : M a = some o) (g : M b = none) : put M b u a = some o := by rw [put_ne (ne_of_some h g)]; exact h
theorem range_at {n : Nat} {i : Nat} {d : D} (h : (rangeD 0 n)[i]? = some d) : i < n ∧ d = .int (i : Int) := by
  have h1 := (List.getElem?_eq_some_iff.mp h).1
  have hi : i < n := by simpa [rangeD] using h1
  refine ⟨hi, ?_⟩
  simp [rangeD, hi] at h; exact h.symm
@[simp] theorem rangeD_len {lo : Int} {n : Nat} : (rangeD lo n).length = n := by simp [rangeD]
theorem glue_ones : ∀ (r : List Nat) (acc : Array Nat), (r.map one).foldl (fun acc (p : Str) => acc ++ (lit "").cps ++ p.cps) acc = acc ++ r.toArray
  | [], acc => by simp
  | c :: r, acc => by
    rw [List.map_cons, List.foldl_cons, glue_ones r, show (lit "").cps = #[] by decide +kernel]
    apply Array.toList_inj.mp; simp
theorem join_ones (cs : List Nat) : Txt.join (lit "") (cs.map one) = ⟨cs.toArray⟩ := by
  unfold Txt.join Builtin.Str.glued
  cases cs with
  | nil => rfl
  | cons c r =>
    simp only [List.map_cons, List.drop_succ_cons, List.drop_zero, List.headD_cons]
    rw [glue_ones]
    congr 1
    apply Array.toList_inj.mp; simp
theorem ones_sum (cs : List Nat) : ((cs.map one).map (·.length)).sum = cs.length := by
  induction cs with
  | nil => rfl
  | cons c r ih => simp only [List.map_cons, List.sum_cons, ih, List.length_cons]; show 1 + _ = _; omega
/-- ''.join(signs drawn) -/
theorem join_signs {cs : List Nat} {M : Mst} {Q : DK} (hp : ∀ c ∈ cs, c < 55296) (hl : cs.length ≤ 100000) (h : Q (.str ⟨cs.toArray⟩) M) : mJoin (.str (lit "")) [.lst ((cs.map one).map .str)] M Q := by
  have e0 : (lit "").length = 0 := by decide +kernel
  simp only [mJoin, res_str, res_lst, strsD_map, join_ones, ones_sum, e0]
  refine ⟨by simp; exact hl, ⟨by show cs.toArray.size ≤ 100000; simpa using hl, ?_⟩, h⟩
  unfold PyData.strOk
  rw [← Array.all_toList, List.all_eq_true]
  intro c hc
  have := hp c (by simpa using hc)
  exact decide_eq_true (by omega)
structure Tx_ (n : Nat) (x : Str) : Prop where
  pr : Pr x
  len : x.length ≤ n
theorem Tx_.ok {n : Nat} {x : Str} (h : Tx_ n x) (hn : n ≤ 100000) : okS x := pr_ok h.pr (Nat.le_trans h.len hn)
theorem Tx_.mono {n m : Nat} {x : Str} (h : Tx_ n x) (hn : n ≤ m) : Tx_ m x := ⟨h.pr, Nat.le_trans h.len hn⟩
theorem Tx_.app {n m : Nat} {x y : Str} (h : Tx_ n x) (g : Tx_ m y) : Tx_ (n + m) (x ++ y) := ⟨pr_app h.pr g.pr, by rw [len_append]; have := h.len; have := g.len; omega⟩
theorem tx_one {c : Nat} (h : 32 ≤ c ∧ c ≤ 126) : Tx_ 1 (one c) := ⟨pr_one h, Nat.le_refl 1⟩
theorem tx_signs {cs : List Nat} {n : Nat} (h : ∀ c ∈ cs, 32 ≤ c ∧ c ≤ 126) (hl : cs.length ≤ n) : Tx_ n ⟨cs.toArray⟩ := ⟨fun c hc => h c (by simpa using hc), by show cs.toArray.size ≤ n; simpa using hl⟩
theorem cutS_tx {n : Nat} {x : Str} {lo hi : Option Int} (h : Tx_ n x) : Tx_ n (cutS x lo hi) := by
  refine ⟨fun c hc => ?_, ?_⟩
  · unfold cutS at hc
    exact h.pr c (List.mem_of_mem_drop (List.mem_of_mem_take (by simpa using hc)))
  · exact Nat.le_trans (cutS_length ..) h.len
def wt (ys : List Str) : Nat := (ys.map (·.length)).sum + ys.length
end DL
namespace DL
open PySem L2
theorem lookup_zip {α : Type} {f : Str} : ∀ {fs : List Str} {i : Nat}, fs.findIdx? (fun z => z == f) = some i → ∀ {ns : List Str} {ds : List α} {y : α}, ns = fs.take ns.length → ds.length = ns.length → ds[i]? = some y → (ns.zip ds).lookup f = some y
  | [], i, h, _, _, _, _, _, _ => by simp at h
  | g :: fs, i, h, ns, ds, y, e, l, hy => by
    cases ns with
    | nil =>
      have : ds = [] := List.eq_nil_of_length_eq_zero (by simpa using l)
      subst this; simp at hy
    | cons n ns =>
      cases ds with
      | nil => simp at l
      | cons d ds =>
        simp only [List.length_cons, List.take_succ_cons, List.cons.injEq] at e
        obtain ⟨rfl, e⟩ := e
        rw [List.findIdx?_cons] at h
        show List.lookup f ((n, d) :: ns.zip ds) = some y
        by_cases hn : (n == f) = true
        · rw [if_pos hn] at h
          cases h
          have hf : (f == n) = true := by rw [beq_iff_eq] at hn ⊢; exact hn.symm
          rw [List.lookup_cons, hf]
          simpa using hy
        · rw [if_neg hn] at h
          obtain ⟨j, hj, rfl⟩ := Option.map_eq_some_iff.mp h
          have hf : (f == n) = false := by
            rw [Bool.eq_false_iff]; intro z; rw [beq_iff_eq] at z; exact hn (by rw [beq_iff_eq]; exact z.symm)
          rw [List.lookup_cons, hf]
          exact lookup_zip hj e (by simpa using l) (by simpa using hy)
/-- what an instance's fields are now -/
def insD (M : Mst) (x : D) : Option (Addr × List Str × List D) := match res M x with
  | .ins C ns ds => some (C, ns, ds)
  | _ => none
theorem as_insD {K : PySem.W.Frag} {G H : Hp} {p : Rho} {M : Mst} {s : L2.St} {x : D} {v : V} {C : Addr} {ns : List Str} {ds : List D} (S : Sim K G H p M s) (r : Rep K G x v) (h : insD M x = some (C, ns, ds)) :
    ∃ a dx fv, v = .ref a ∧ H a = some (.ins C dx fv) ∧ fv.map (·.1) = ns ∧ RepL K G ds (fv.map (·.2)) := by
  unfold insD at h
  split at h
  · next e => cases h; exact as_ins S r e
  · cases h
/-- e.f, the field at place i of fs -/
def qFld (C : Addr) (fs : List Str) (i : Nat) (qe : DTE) : DTE := fun DW p M Q => qe DW p M fun x M1 => match insD M1 x with
  | some (C', ns, ds) => C' = C ∧ ns = fs.take ns.length ∧ match ds[i]? with
    | some y => Q y M1
    | none => False
  | none => False
section
variable {X : Cx} {W : WX} {e o : Expr} {te to : TE} {qe qo : DTE} {f : Str} {pos pos' : Pos} {C : Addr} {fs : List Str} {i : Nat}
theorem q_fld (cl : Cls X.K C) (n : NoAttr X.K C f) (he : QE X W e te qe) (hi : fs.findIdx? (fun z => z == f) = some i) (hb : attributeBase e f X.env (eval e X.env) = eval e X.env := by rfl) :
    QE X W (.Attribute e f pos) (tFld X.K te f) (qFld C fs i qe) :=
  ⟨pe_fld he.pe hb, fun DW G H p M s Q Q' hw S h k => he.rf DW G H p M s _ _ hw S h fun G1 H1 M1 x v e1 S1 r1 h1 => by
    split at h1
    · next C' ns ds eo =>
      obtain ⟨rfl, hn, h1⟩ := h1
      obtain ⟨a, dx, fv, rfl, g1, g2, g3⟩ := as_insD S1 r1 eo
      split at h1
      · next y ey =>
        obtain ⟨w, ew, rw_⟩ := g3.get ey
        refine ⟨a, C', dx, fv, w, rfl, g1, cl, n, ?_, k G1 H1 M1 y w e1 S1 rw_ h1⟩
        have hl := g3.length
        have hln : (fv.map (·.2)).length = ns.length := by rw [← g2]; simp
        have := lookup_zip (ds := fv.map (·.2)) hi hn hln ew
        rw [← g2, zip_fs] at this
        exact this
      · exact h1.elim
    · exact h1.elim⟩
end
/-- o.f = e: the field at place i of fs -/
def setAt (i : Nat) (f : Str) (y : D) (cur : List (Str × D)) : List (Str × D) := if i < cur.length then cur.set i (f, y) else cur ++ [(f, y)]
def qSetF (C : Addr) (fs : List Str) (i : Nat) (f : Str) (qo qe : DTE) : DTS := fun DW DE p M => qe DW p M fun y M1 => qo DW p M1 fun x M2 => match x with
  | .ref a => match M2 a with
    | some (.ins C' cur) => C' = C ∧ cur.map (·.1) = fs.take cur.length ∧ i ≤ cur.length ∧ fs.length < 900 ∧ DE.nx p (put M2 a (.ins C (setAt i f y cur)))
    | _ => False
  | _ => False
theorem putF_names {f : Str} {y : V} : ∀ {cur : List (Str × V)} {fs : List Str} {i : Nat}, fs.findIdx? (fun z => z == f) = some i → cur.map (·.1) = fs.take cur.length → i ≤ cur.length →
    putF f y cur = if i < cur.length then cur.set i (f, y) else cur ++ [(f, y)]
  | [], fs, i, h, e, hi => by
    have : i = 0 := by simpa using hi
    subst this; rfl
  | (g, x) :: r, [], i, h, e, hi => by simp at h
  | (g, x) :: r, n :: fs, i, h, e, hi => by
    simp only [List.map_cons, List.length_cons, List.take_succ_cons, List.cons.injEq] at e
    obtain ⟨e0, e⟩ := e
    subst e0
    rw [List.findIdx?_cons] at h
    show (if g = f then (g, y) :: r else (g, x) :: putF f y r) = _
    by_cases hn : g = f
    · rw [if_pos (by rw [beq_iff_eq]; exact hn)] at h
      cases h
      subst hn
      rw [if_pos rfl, if_pos (by simp)]
      rfl
    · rw [if_neg (by rw [beq_iff_eq]; exact hn)] at h
      obtain ⟨j, hj, rfl⟩ := Option.map_eq_some_iff.mp h
      rw [if_neg hn, putF_names hj e (by simpa using hi)]
      simp only [List.length_cons, Nat.add_lt_add_iff_right, List.set_cons_succ]
      split <;> rfl
theorem take_le_len {α β : Type} {cur : List α} {g : α → β} {fs : List β} (e : cur.map g = fs.take cur.length) : cur.length ≤ fs.length := by
  have := congrArg List.length e
  simp at this; omega
section
variable {X : Cx} {W : WX} {e o : Expr} {te to : TE} {qe qo : DTE} {f : Str} {pos pos' : Pos} {C : Addr} {fs : List Str} {i : Nat}
theorem map_set_fst {α β : Type} {l : List (α × β)} {i : Nat} {q : α × β} : (l.set i q).map (·.1) = (l.map (·.1)).set i q.1 := by rw [List.map_set]
theorem qs_setF (cl : Cls X.K C) (n : NoAttr X.K C f) (ho : QE X W o to qo) (he : QE X W e te qe) (hi : fs.findIdx? (fun z => z == f) = some i) (hs : swapsWith e (some (.Attribute o f pos')) pos.line X.env = pure false := by rfl) :
    QS X W (.Assign [.Attribute o f pos'] e pos) (sFld X.K to te f) (qSetF C fs i f qo qe) :=
  ⟨ps_fld ho.pe he.pe hs, fun DW G H p M s DE E hw S h k => he.rf DW G H p M s _ _ hw S h fun G1 H1 M1 y v e1 S1 r1 h1 => ho.rf DW G1 H1 p M1 s _ _ (hw.mono e1) S1 h1 fun G2 H2 M2 x u e2 S2 r2 h2 => by
    split at h2
    · next a =>
      cases r2
      split at h2
      · next C' cur em =>
        obtain ⟨rfl, hn, hl, hf, h2⟩ := h2
        obtain ⟨gn, dx, fv, g1, g2, g3⟩ := S2.mem _ _ em
        have len : fv.length = cur.length := by have := congrArg List.length g2; simpa using this
        have hle := take_le_len hn
        have hn' : fv.map (·.1) = fs.take fv.length := by rw [g2, hn, len]
        refine ⟨a, C', dx, fv, rfl, g1, cl, n, by omega, ?_⟩
        have pf : putF f v fv = if i < fv.length then fv.set i (f, v) else fv ++ [(f, v)] := putF_names hi hn' (by omega)
        have rm : RepM X.K G2 (upd H2 a (.ins C' dx (putF f v fv))) a (.ins C' (setAt i f y cur)) := by
          refine ⟨dx, _, upd_same, ?_, ?_⟩
          · rw [pf]; unfold setAt
            rw [len]
            by_cases hc : i < cur.length
            · rw [if_pos hc, if_pos hc, map_set_fst, map_set_fst, g2]
            · rw [if_neg hc, if_neg hc, List.map_append, List.map_append, g2]; rfl
          · rw [pf]; unfold setAt
            rw [len]
            have r1' := Rep.mono e2 _ _ r1
            by_cases hc : i < cur.length
            · rw [if_pos hc, if_pos hc, List.map_set, List.map_set]
              exact g3.set i r1'
            · rw [if_neg hc, if_neg hc, List.map_append, List.map_append]
              exact g3.append (RepL.cons r1' rfl)
        exact k.nx G2 _ p _ s (e1.trans e2) (S2.put gn rm) h2
      · exact h2.elim
    · exact h2.elim⟩
end
def tMakeSD (C : Addr) (sp : Sp) (dvs : List V) (E : L2.St → XK) (t : TA) : TE := fun σ H Q => t σ H fun vs H1 => ∀ x dx, H1 x = none → H1 dx = none → dx ≠ x →
  sp (.ref x :: (vs ++ dvs)) (upd (upd H1 dx (.own x)) x (.ins C dx [])) (fun v H2 => v = .non ∧ Q (.ref x) H2) (E σ)
def qMake (C : Addr) (P : DSp) (dds : List D) (qa : DTA) : DTE := fun DW p M Q => qa DW p M fun ds M1 => ∀ a, M1 a = none → P (.ref a :: (ds ++ dds)) (put M1 a (.ins C [])) (fun d M2 => d = .non ∧ Q (.ref a) M2) fun z M3 => DW z p M3
section
variable {X : Cx} {W : WX} {k n : Nat} {C f : Addr} {fd : FuncData} {ps ks : List Str} {P : DSp} {dds : List D} {dvs : List V} {ds : List Value} {x : Str} {p pos : Pos} {e : Expr} {es : List Expr} {kws : List Keyword} {t tk : TA} {q qk : DTA} {idx : List Nat}
theorem isNon_v {K : PySem.W.Frag} {G : Hp} {d : D} {v : V} (r : Rep K G d v) (h : d = .non) : v = .non := by subst h; exact r
/-- the new instance stands: from its promise by data -/
theorem made_sim {K : PySem.W.Frag} {G H : Hp} {p : Rho} {M : Mst} {s : L2.St} (S : Sim K G H p M s) {a dx : Addr} (ha : H a = none) (hdx : H dx = none) (hn : dx ≠ a) : M a = none ∧ Sim K G (upd (upd H dx (.own a)) a (.ins C dx [])) p (put M a (.ins C [])) s := by
  refine ⟨S.mem.fresh ha, ?_⟩
  have S1 : Sim K G (upd H dx (.own a)) p M s := sim_laid S hdx
  exact S1.put (S1.same.free (by rw [upd_ne hn.symm]; exact ha)) ⟨dx, [], upd_same, rfl, rfl⟩
theorem run_fnE {sp : Sp} {E : L2.St → XK} {CX : CXT} {pins : List (Addr × Obj)} {σ : L2.St} {H : Hp} {s : Shared} {Q : VK} {us ws args : List Value} {vs : List V} (hargs : Vals vs args) (M : Mk X.K C f) (F : FnOk X.prog X.w X.K X.mg X.base CX k f fd ps sp) (hr : Room (k + 1) X.A)
    (hb : ∀ s : Shared, X.K.In s.heap → BindsTo s fd ⟨Value.ref (σ0 + 1) :: us, ks.zip ws⟩ (ps.zip args)) (hx : PassesAt CX X σ (E σ)) (I : Inv X pins σ H s) (e0 : s.heap.objs.size = σ0)
    (h : ∀ dx, H (σ0 + 1) = none → H dx = none → dx ≠ σ0 + 1 → sp vs (upd (upd H dx (.own (σ0 + 1))) (σ0 + 1) (.ins C dx [])) (fun v H2 => v = .non ∧ Q (.ref (σ0 + 1)) H2) (E σ)) :
    wpAny (model X.prog X.w) X.A (call (.ref C) us (ks.zip ws)) (EP X pins σ Q) X.xe s := by
  subst e0
  have hq := h s.heap.objs.size (I.hok.fresh (Nat.le_succ _)) (I.hok.fresh (Nat.le_refl _)) (Nat.ne_of_lt (Nat.lt_succ_self _))
  have I2 := Inv.made (C := C) I
  refine wpAny_call (make_map (f := f) I.kIn M.makes M.init (beq_iff_eq.mp M.fn) (codeAny_mono (F.run _ X.stack _ _ ⟨Value.ref (s.heap.objs.size + 1) :: us, ks.zip ws⟩ args vs _ (E σ) (hr.make C us (ks.zip ws))
    (I2.env0.make C us (ks.zip ws)) (hb _ I2.kIn) hargs hq) fun r s' hq' => ?_))
  cases r with
  | error e => exact hx pins _ _ e s' I2 hq'
  | ok fl =>
    cases fl with
    | ret u =>
      obtain ⟨v, H', I3, rv, ev, q3⟩ := I2.after hq'
      subst ev
      exact ⟨rv, ⟨V.ref (s.heap.objs.size + 1), H', I3, rfl, q3⟩⟩
    | next => exact False.elim hq'
    | brk => exact False.elim hq'
    | cont => exact False.elim hq'
theorem run_mk {sp : Sp} {E : L2.St → XK} {CX : CXT} {pins : List (Addr × Obj)} {σ : L2.St} {H : Hp} {s : Shared} {Q : VK} {us : List Value} {vs : List V} (M : Mk X.K C f) (F : FnOk X.prog X.w X.K X.mg X.base CX k f fd ps sp) (hr : Room (k + 1) X.A) (hb : Binds X.K fd ps ds) (hd : Vals dvs ds)
    (hx : PassesAt CX X σ (E σ)) (I : Inv X pins σ H s) (r : Vals vs us)
    (h : ∀ x dx, H x = none → H dx = none → dx ≠ x → sp (.ref x :: (vs ++ dvs)) (upd (upd H dx (.own x)) x (.ins C dx [])) (fun v H2 => v = .non ∧ Q (.ref x) H2) (E σ)) :
    wpAny (model X.prog X.w) X.A (call (.ref C) us) (EP X pins σ Q) X.xe s := by
  have r2 : Vals (V.ref (s.heap.objs.size + 1) :: (vs ++ dvs)) (Value.ref (s.heap.objs.size + 1) :: (us ++ ds)) := .cons rfl (r.append hd)
  refine run_fnE (ks := []) (ws := []) r2 M F hr (fun s' hi => ?_) hx I rfl fun dx h1 h2 h3 => h _ dx h1 h2 h3
  have hq := h (s.heap.objs.size + 1) s.heap.objs.size (I.hok.fresh (Nat.le_succ _)) (I.hok.fresh (Nat.le_refl _)) (Nat.ne_of_lt (Nat.lt_succ_self _))
  have hl : (Value.ref (s.heap.objs.size + 1) :: us ++ ds).length = ps.length := by
    have e := r2.length
    rw [F.len _ _ _ _ hq] at e
    exact e.symm
  exact hb s' (Value.ref (s.heap.objs.size + 1) :: us) hi hl
theorem ref_make {K : PySem.W.Frag} (ha : RefA K W t q) (hd : ∀ G, RepL K G dds dvs) : RefE K W (tMakeSD C (toSp K P) dvs (fun s => WE W s) t) (qMake C P dds q) :=
  fun DW G H p M s Q Q' hw S h k => ha DW G H p M s _ _ hw S h fun G1 H1 M1 as vs e1 S1 r1 h1 a dx ha' hdx hn => by
    obtain ⟨mn, S2⟩ := made_sim (C := C) S1 ha' hdx hn
    exact toSp_at (hw.mono e1) S2 (RepL.cons (d := .ref a) rfl (RepL.append r1 (hd _))) (h1 a mn) fun G' H' M' d v e3 S3 r3 ⟨hd', q3⟩ => ⟨isNon_v r3 hd', k G' H' M' (.ref a) (.ref a) (e1.trans e3) S3 rfl q3⟩
/-- C(e, ..) -/
theorem q_make (Mk_ : Mk X.K C f) (F : FnOk X.prog X.w X.K X.mg X.base (L2.CX X.prog X.w) k f fd ps (toSp X.K P)) (hr : Room (k + 1) X.A) (tk : Takes X W) (hg : Gl X x) (hm : X.mg x = some (.ref C)) (hb : Binds X.K fd ps ds) (hd : Vals dvs ds) (hdd : ∀ G, RepL X.K G dds dvs)
    (ha : QA X W (e :: es) t q) (hdb : (x == ("__debug__" : Str)) = false := by decide) (he : starEach (e :: es) X.env = (false, eval e X.env) :: starEach es X.env := by rfl) (hpl : (backTo pos (starEach es X.env)).any (·.1) = false := by rfl) :
    QE X W (.Call (.Name x p) (e :: es) [] pos) (tMakeSD C (toSp X.K P) dvs (fun s => WE W s) t) (qMake C P dds q) := by
  refine ⟨⟨fun pins s σ H Q I h => ?_⟩, ref_make ha.rf hdd⟩
  refine wpAny_Call_Name_kw (ld_glob I hg hm ?_ hdb)
  refine PySem.W.callWith_K (h₀ := X.base) I.ok.mod.kin Mk_.kp (thn (ha.pe.run pos pins s σ H _ I h) fun us s1 ⟨vs, H1, I1, r, q⟩ => ⟨I1.kIn, ?_⟩) he hpl
  exact run_mk (E := fun s => WE W s) Mk_ F hr hb hd (passAt tk σ) I1 r q
end
def qFrzE (q : DTE) : DTE := fun DW p M Q => q DW p M fun d M1 => match d with
  | .ref a => match M1 a with
    | some (.lst ds) => Q (.lst ds) (del M1 a)
    | some (.dK kvs) => Q (.dct (kvs.map (·.1)) (kvs.map (·.2))) (del M1 a)
    | some (.ins C fs) => Q (.ins C (fs.map (·.1)) (fs.map (·.2))) (del M1 a)
    | _ => False
  | d => Q d M1
theorem q_frzE {X : Cx} {W : WX} {e : Expr} {t : TE} {q : DTE} (h : QE X W e t q) : QE X W e t (qFrzE q) :=
  ⟨h.pe, fun DW G H p M s Q Q' hw S hq k => h.rf DW G H p M s _ _ hw S hq fun G1 H1 M1 d v e1 S1 r1 h1 => by
    split at h1
    · next a =>
      cases r1
      split at h1
      · next ds em =>
        obtain ⟨G', e2, S', r⟩ := S1.freeze em
        exact k G' H1 _ _ _ (e1.trans e2) S' r h1
      · next ds em =>
        obtain ⟨G', e2, S', r⟩ := S1.freezeD em
        exact k G' H1 _ _ _ (e1.trans e2) S' r h1
      · next C fs em =>
        obtain ⟨G', e2, S', r⟩ := S1.freezeI em
        exact k G' H1 _ _ _ (e1.trans e2) S' r h1
      · exact h1.elim
    · exact k G1 H1 M1 _ v e1 S1 r1 h1⟩
/-- an own class of the module -/
structure ClsO (K : PySem.W.Frag) (mg : Str → Option Value) (x : Str) (fs : List Str) where
  C : Addr
  g : mg x = some (.ref C)
  cl : Cls K C
  no : ∀ f ∈ fs, NoAttr K C f
/-- a method of it -/
structure MthAt (K : PySem.W.Frag) (C : Addr) (x qual : Str) (st : Stmt) (ps : List Str) where
  f : Addr
  fd : FuncData
  m : Meth K C x f
  F : Fun K x qual st f fd
  b : Binds K fd ps []
end DL
namespace DL
open PySem L2
section
variable {prog : Program} {w : World} {A : Around} {E : Value → Shared → Prop} {s : Shared}
theorem enum_endL {e it l : Addr} {i : Nat} {c : Int} {items : Array Value} {old : Value} {Q : Option Value → Shared → Prop} (hh : A.handled = none)
    (he : IsEnum s.heap e it c old) (hit : s.heap.IsListIter it l i) (hl : s.heap.IsList l items) (hx : items[i]? = none)
    (hQ : ∀ h', Heap.ExtBut it s.heap h' → Q none { s with heap := h' }) : wpAny (model prog w) A (pyNext (.ref e)) Q E s := by
  have hT : s.TypeIs (.ref e) "enumerate" := ⟨_, he, rfl⟩
  unfold pyNext
  refine wpAny_bind (wpAny_attempt (wpAny_callSpecial?_slot (name := Str.ofString "__next__") hT F.slot_enumerate_next
    (wpAny_call_entry F.slot_enumerate_next hT F.entry_enumerate_next ?_ (F.args_enumerate_next_1 _))))
  show wpAny _ _ (field (.ref e) 2 >>= _) _ _ _
  refine wpAny_bind (wpAny_field he rfl (x := .ref it) rfl ?_)
  refine wpAny_bind (wpAny_nextOf_list_end hh hit hl hx fun h' x he' hx' => ?_)
  obtain ⟨o, ho, hc⟩ := hx'
  refine wpAny_bind (wpAny_isInstance (T := "StopIteration") (b := true) ⟨o, ho, hc⟩ isSubtype_stop ?_)
  exact wpAny_pure (hQ _ he')
theorem enum_endT {e it l : Addr} {i : Nat} {c : Int} {items : Array Value} {old : Value} {Q : Option Value → Shared → Prop} (hh : A.handled = none)
    (he : IsEnum s.heap e it c old) (hit : s.heap.IsTupleIter it l i) (hl : s.heap.IsTuple l items) (hx : items[i]? = none)
    (hQ : ∀ h', Heap.ExtBut it s.heap h' → Q none { s with heap := h' }) : wpAny (model prog w) A (pyNext (.ref e)) Q E s := by
  have hT : s.TypeIs (.ref e) "enumerate" := ⟨_, he, rfl⟩
  unfold pyNext
  refine wpAny_bind (wpAny_attempt (wpAny_callSpecial?_slot (name := Str.ofString "__next__") hT F.slot_enumerate_next
    (wpAny_call_entry F.slot_enumerate_next hT F.entry_enumerate_next ?_ (F.args_enumerate_next_1 _))))
  show wpAny _ _ (field (.ref e) 2 >>= _) _ _ _
  refine wpAny_bind (wpAny_field he rfl (x := .ref it) rfl ?_)
  refine wpAny_bind (wpAny_nextOf_tuple_end hh hit hl hx fun h' x he' hx' => ?_)
  obtain ⟨o, ho, hc⟩ := hx'
  refine wpAny_bind (wpAny_isInstance (T := "StopIteration") (b := true) ⟨o, ho, hc⟩ isSubtype_stop ?_)
  exact wpAny_pure (hQ _ he')
end
/-- the list at a as it stands at each turn, each item in a new pair with its count -/
def IeL (K : PySem.W.Frag) (k : Int) (a : Addr) : It :=
  ⟨fun i H => ∃ (xs : List V) (x : V), SqL K H a xs ∧ xs[i]? = some x, fun i H v H' => ∃ T x, v = .ref T ∧ H T = none ∧ H' = upd H T (.tup [.int (k + (i : Nat)), x]) ∧ ∀ xs, SqL K H a xs → xs[i]? = some x, fun i H => ∃ xs : List V, SqL K H a xs ∧ xs.length ≤ i⟩
theorem turn_enumL {P : Program} {w : World} {K : PySem.W.Frag} {elts : List Expr} {kk : Nat} {tpos : Pos} (k : Int) (a e it : Addr) (hai : a ≠ it) (hae : a ≠ e) :
    Turn P w K (.Tuple elts kk tpos) (IeL K k a) [e, it] e (fun i h => (∃ old, IsEnum h e it (k + (i : Nat)) old) ∧ h.IsListIter it a i ∧ e ≠ it) where
  mem := by simp
  obj := fun i h st b hb => by
    obtain ⟨⟨old, he⟩, ⟨o, ho, hc, hd⟩, _⟩ := st
    have e' : b = e ∨ b = it := by simpa using hb
    rcases e' with z | z
    · rw [z]; exact ⟨_, he, fun v q => nomatch q⟩
    · rw [z]; exact ⟨o, ho, fun v q => by rw [hd] at q; cases q⟩
  keep := fun i h h' st k => let ⟨⟨old, he⟩, hi, hne⟩ := st; ⟨⟨old, k e (by simp) _ he⟩, hi.at fun o q => k it (by simp) o q, hne⟩
  item := by
    intro X hP hw hK hc i pins s σ H E I hf st hg
    subst hP hw hK
    obtain ⟨⟨old, he⟩, hit, hne⟩ := st
    obtain ⟨xs, x, hq, hx⟩ := hg
    obtain ⟨its, rv, p, hz⟩ := I.list hq
    obtain ⟨u, hu, ru⟩ := rv.get hx
    have hel : e < s.heap.objs.size := Heap.lt_size he
    have hil : it < s.heap.objs.size := by obtain ⟨_, q, _⟩ := hit; exact Heap.lt_size q
    have hlt : i < its.toArray.size := by
      have := (List.getElem?_eq_some_iff.mp hu).1
      simpa using this
    have D := Draws.list (prog := X.prog) (w := X.w) (A := X.A.in1) (by exact I.ok.hd hc) it a hai its.toArray
    refine wpAny_pyNext_enum_itemC D he ⟨hit, p.isList⟩ hlt hne (by simp [hne, Ne.symm hae]) fun y h' tk hy ho hit' hT hsz hk => ?_
    have ey : y = u := by
      have h2 : its.toArray[i]? = some u := by simpa using hu
      rw [h2] at hy; exact (Option.some.inj hy).symm
    subst ey
    obtain ⟨hit', hls'⟩ := hit'
    refine ⟨_, rfl, wpAny_letOwnedTupleGo_enum (s := { s with heap := h', toks := tk + 1 }) ho fun h'' he' sb => ?_⟩
    have hT2 : h''.get? s.heap.objs.size = some { cls := .type "tuple", data := .seq #[.int (k + (i : Nat)) tk, y] } := (sb.2 _ (Nat.ne_of_gt hel)).trans hT
    have new : ObjOk X.prog X.w (upd H s.heap.objs.size (.tup [.int (k + (i : Nat)), x])) h'' s.heap.objs.size (.tup [.int (k + (i : Nat)), x]) :=
      ⟨by show 2 ≤ sizeLine; decide, [.int (k + (i : Nat)) tk, y], .cons ⟨_, rfl⟩ (.cons ru .nil), ⟨_, hT2, rfl, _, rfl⟩⟩
    have I1 : Inv X pins σ (upd H s.heap.objs.size (.tup [.int (k + (i : Nat)), x])) { s with heap := h'', toks := tk + 1 } :=
      I.turnedNew (ch := [e, it]) (fun b ob hb q => (sb.2 b (fun z => hb (by simp [z]))).trans (hk b ob (fun z => hb (by simp [z])) (fun z => hb (by simp [z])) q)) hf (Nat.le_refl _) new
    refine ⟨.ref s.heap.objs.size, _, I1, rfl, ⟨_, x, rfl, I.hok.fresh (Nat.le_refl _), rfl, fun ys hy => by rw [I.list_inj hy hq]; exact hx⟩, ⟨⟨y, ?_⟩, hit'.at fun o q => (sb.2 it (Ne.symm hne)).trans q, hne⟩, fun b hb => ?_⟩
    · have e1 : k + ((i + 1 : Nat) : Int) = k + (i : Nat) + 1 := by omega
      rw [e1]; exact he'
    · have hb' : b < s.heap.objs.size := by
        have e' : b = e ∨ b = it := by simpa using hb
        rcases e' with z | z
        · rw [z]; exact hel
        · rw [z]; exact hil
      rw [upd_ne (Nat.ne_of_lt hb')]
      exact (hf b hb).1
  done := by
    intro X hP hw hK hc i pins s σ H E I hf st hg
    subst hP hw hK
    obtain ⟨⟨old, he⟩, hit, hne⟩ := st
    obtain ⟨xs, hq, hx⟩ := hg
    obtain ⟨its, rv, p, hz⟩ := I.list hq
    obtain ⟨f0, f1, f2, f3, f4, f5⟩ := hf it (by simp)
    have hl := rv.length
    have D := Draws.list (prog := X.prog) (w := X.w) (A := X.A.in1) (by exact I.ok.hd hc) it a hai its.toArray
    exact enum_endL (I.ok.hd hc) he hit (p.isList) (by simp; omega) fun h' eb => ⟨rfl, I.turned (t' := s.toks) (fun b o hb q => eb b o hb q) f0 f1 f3 f4 f5⟩
  self := fun A i s Q E st h => let ⟨⟨_, he⟩, _⟩ := st; wpAny_pyIter_enum he h
/-- the tuple at a as it stands at each turn, each item in a new pair with its count -/
def IeT (K : PySem.W.Frag) (k : Int) (a : Addr) : It :=
  ⟨fun i H => ∃ (xs : List V) (x : V), SqT K H a xs ∧ xs[i]? = some x, fun i H v H' => ∃ T x, v = .ref T ∧ H T = none ∧ H' = upd H T (.tup [.int (k + (i : Nat)), x]) ∧ ∀ xs, SqT K H a xs → xs[i]? = some x, fun i H => ∃ xs : List V, SqT K H a xs ∧ xs.length ≤ i⟩
theorem turn_enumT {P : Program} {w : World} {K : PySem.W.Frag} {elts : List Expr} {kk : Nat} {tpos : Pos} (k : Int) (a e it : Addr) (hai : a ≠ it) (hae : a ≠ e) :
    Turn P w K (.Tuple elts kk tpos) (IeT K k a) [e, it] e (fun i h => (∃ old, IsEnum h e it (k + (i : Nat)) old) ∧ h.IsTupleIter it a i ∧ e ≠ it) where
  mem := by simp
  obj := fun i h st b hb => by
    obtain ⟨⟨old, he⟩, ⟨o, ho, hc, hd⟩, _⟩ := st
    have e' : b = e ∨ b = it := by simpa using hb
    rcases e' with z | z
    · rw [z]; exact ⟨_, he, fun v q => nomatch q⟩
    · rw [z]; exact ⟨o, ho, fun v q => by rw [hd] at q; cases q⟩
  keep := fun i h h' st k => let ⟨⟨old, he⟩, hi, hne⟩ := st; ⟨⟨old, k e (by simp) _ he⟩, hi.at fun o q => k it (by simp) o q, hne⟩
  item := by
    intro X hP hw hK hc i pins s σ H E I hf st hg
    subst hP hw hK
    obtain ⟨⟨old, he⟩, hit, hne⟩ := st
    obtain ⟨xs, x, hq, hx⟩ := hg
    obtain ⟨its, rv, p, hz⟩ := I.tuple hq
    obtain ⟨u, hu, ru⟩ := rv.get hx
    have hel : e < s.heap.objs.size := Heap.lt_size he
    have hil : it < s.heap.objs.size := by obtain ⟨_, q, _⟩ := hit; exact Heap.lt_size q
    have hlt : i < its.toArray.size := by
      have := (List.getElem?_eq_some_iff.mp hu).1
      simpa using this
    have D := Draws.tuple (prog := X.prog) (w := X.w) (A := X.A.in1) (by exact I.ok.hd hc) it a hai its.toArray
    refine wpAny_pyNext_enum_itemC D he ⟨hit, p⟩ hlt hne (by simp [hne, Ne.symm hae]) fun y h' tk hy ho hit' hT hsz hk => ?_
    have ey : y = u := by
      have h2 : its.toArray[i]? = some u := by simpa using hu
      rw [h2] at hy; exact (Option.some.inj hy).symm
    subst ey
    obtain ⟨hit', hls'⟩ := hit'
    refine ⟨_, rfl, wpAny_letOwnedTupleGo_enum (s := { s with heap := h', toks := tk + 1 }) ho fun h'' he' sb => ?_⟩
    have hT2 : h''.get? s.heap.objs.size = some { cls := .type "tuple", data := .seq #[.int (k + (i : Nat)) tk, y] } := (sb.2 _ (Nat.ne_of_gt hel)).trans hT
    have new : ObjOk X.prog X.w (upd H s.heap.objs.size (.tup [.int (k + (i : Nat)), x])) h'' s.heap.objs.size (.tup [.int (k + (i : Nat)), x]) :=
      ⟨by show 2 ≤ sizeLine; decide, [.int (k + (i : Nat)) tk, y], .cons ⟨_, rfl⟩ (.cons ru .nil), ⟨_, hT2, rfl, _, rfl⟩⟩
    have I1 : Inv X pins σ (upd H s.heap.objs.size (.tup [.int (k + (i : Nat)), x])) { s with heap := h'', toks := tk + 1 } :=
      I.turnedNew (ch := [e, it]) (fun b ob hb q => (sb.2 b (fun z => hb (by simp [z]))).trans (hk b ob (fun z => hb (by simp [z])) (fun z => hb (by simp [z])) q)) hf (Nat.le_refl _) new
    refine ⟨.ref s.heap.objs.size, _, I1, rfl, ⟨_, x, rfl, I.hok.fresh (Nat.le_refl _), rfl, fun ys hy => by rw [I.tuple_inj hy hq]; exact hx⟩, ⟨⟨y, ?_⟩, hit'.at fun o q => (sb.2 it (Ne.symm hne)).trans q, hne⟩, fun b hb => ?_⟩
    · have e1 : k + ((i + 1 : Nat) : Int) = k + (i : Nat) + 1 := by omega
      rw [e1]; exact he'
    · have hb' : b < s.heap.objs.size := by
        have e' : b = e ∨ b = it := by simpa using hb
        rcases e' with z | z
        · rw [z]; exact hel
        · rw [z]; exact hil
      rw [upd_ne (Nat.ne_of_lt hb')]
      exact (hf b hb).1
  done := by
    intro X hP hw hK hc i pins s σ H E I hf st hg
    subst hP hw hK
    obtain ⟨⟨old, he⟩, hit, hne⟩ := st
    obtain ⟨xs, hq, hx⟩ := hg
    obtain ⟨its, rv, p, hz⟩ := I.tuple hq
    obtain ⟨f0, f1, f2, f3, f4, f5⟩ := hf it (by simp)
    have hl := rv.length
    have D := Draws.tuple (prog := X.prog) (w := X.w) (A := X.A.in1) (by exact I.ok.hd hc) it a hai its.toArray
    exact enum_endT (I.ok.hd hc) he hit (p) (by simp; omega) fun h' eb => ⟨rfl, I.turned (t' := s.toks) (fun b o hb q => eb b o hb q) f0 f1 f3 f4 f5⟩
  self := fun A i s Q E st h => let ⟨⟨_, he⟩, _⟩ := st; wpAny_pyIter_enum he h
end DL
namespace PySem
set_option maxHeartbeats 1000000 in
theorem meets_enumerate_new0 {v : Value} {o : Obj} {H : Heap → Prop} (B : Begins v o H) :
    Meets (Builtin.«enumerate.__new__» ⟨[.type "enumerate", v], []⟩) (fun _ R s => H s.heap ∧
      R (.ok (.ret (.ref (s.heap.push o).objs.size))) { s with heap := (s.heap.push o).push { cls := .type "enumerate", data := .fields #[.none, .bool false, .ref s.heap.objs.size, rawInt 0, .none, .none] } }) :=
  .of_wp fun prog w A R s h => by
    obtain ⟨hp, g, d, tk, os⟩ := s; obtain ⟨h1, h⟩ := h
    have hsub := sub_enumerate
    have q1 : ∀ {A' : Around} {E : Value → Shared → Prop} {Q : Value → Shared → Prop}, Q (.ref hp.objs.size) ⟨hp.push o, g, d, tk, os⟩ → wpAny (model prog w) A' (pyIter v) Q E ⟨hp, g, d, tk, os⟩ :=
      fun q => B.iter prog w _ _ ⟨hp, g, d, tk, os⟩ _ h1 q
    wp_walk using q1
    refine wpAny_stack_any fun st => wpAny_pure ?_
    split
    · rename_i c _ _ _ _ _
      cases (c == Value.type "enumerate")
      · wp_walk using q1
        exact ⟨_, rfl, h⟩
      · wp_walk using q1
        exact ⟨_, rfl, h⟩
    · wp_walk using q1
      exact ⟨_, rfl, h⟩
theorem enum_begins0 {prog : Program} {w : World} {A : Around} {E : Value → Shared → Prop} {s : Shared} {v : Value} {o : Obj} {H : Heap → Prop} {Q : Value → Shared → Prop} (B : Begins v o H) (h1 : H s.heap)
    (h : ∀ h', IsEnum h' (s.heap.objs.size + 1) s.heap.objs.size 0 .none → h'.get? s.heap.objs.size = some o → h'.objs.size = s.heap.objs.size + 2 →
      (∀ b o, s.heap.get? b = some o → h'.get? b = some o) → Q (.ref (s.heap.objs.size + 1)) { s with heap := h' }) :
    wpAny (model prog w) A (call (.type "enumerate") [v]) Q E s := by
  refine callType_new F.called_enumerate (by decide) (F.typeCall_enumerate_1 _) (F.newCall_enumerate_1 _) (fun obj => F.args_object_init_2 obj _) F.entry_enumerate_new
    (meets_enumerate_new0 B) ⟨h1, ?_⟩
  have hz : (s.heap.push o).objs.size = s.heap.objs.size + 1 := Heap.size_push ..
  show _ ∧ _
  rw [hz]
  have he : IsEnum ((s.heap.push o).push { cls := .type "enumerate", data := .fields #[.none, .bool false, .ref s.heap.objs.size, rawInt 0, .none, .none] }) (s.heap.objs.size + 1) s.heap.objs.size 0 .none := by
    have := Heap.get?_push_size (s.heap.push o) (o := { cls := .type "enumerate", data := .fields #[.none, .bool false, .ref s.heap.objs.size, rawInt 0, .none, .none] }) rfl
    rw [hz] at this; exact this
  refine ⟨⟨_, he, rfl⟩, h _ he (Heap.get?_push_of_some _ (Heap.get?_push_size _ B.free)) (by rw [Heap.size_push, hz]) fun b o x => Heap.get?_push_of_some _ (Heap.get?_push_of_some _ x)⟩
end PySem
namespace DL
open PySem L2
/-- enumerate(x), enumerate(x, start=k): what stands at the start is given as a value -/
theorem enum_begin {X : Cx} {pins : List (Addr × Obj)} {σ : L2.St} {H : Hp} {s : Shared} {elts : List Expr} {kk : Nat} {tpos : Pos} {R : It → Hp → Prop} {a : Addr} {xs : List V} {k : Int} (I : Inv X pins σ H s) (hk0 : -(2 ^ 63) ≤ k) (hk1 : k < 2 ^ 63)
    (h : (SqL X.K H a xs ∧ R (IeL X.K k a) H) ∨ (SqT X.K H a xs ∧ R (IeT X.K k a) H)) :
    ∃ (o : Obj) (HH : Heap → Prop), Begins (.ref a) o HH ∧ HH s.heap ∧ ∀ h', IsEnum h' (s.heap.objs.size + 1) s.heap.objs.size k .none → h'.get? s.heap.objs.size = some o → h'.objs.size = s.heap.objs.size + 2 →
      (∀ b o, s.heap.get? b = some o → h'.get? b = some o) → PIE X pins σ (.Tuple elts kk tpos) R (.ref (s.heap.objs.size + 1)) { s with heap := h' } := by
  have fp : ∀ b ∈ [s.heap.objs.size + 1, s.heap.objs.size], FpOk X pins H b := fun b hb => by
    have e' : b = s.heap.objs.size + 1 ∨ b = s.heap.objs.size := by simpa using hb
    have hle : s.heap.objs.size ≤ b := by
      rcases e' with z | z
      · rw [z]; exact Nat.le_add_right _ _
      · rw [z]; exact Nat.le_refl _
    exact I.fpOk hle (I.hok.fresh hle)
  rcases h with ⟨hq, q⟩ | ⟨hq, q⟩
  · obtain ⟨its, rv, p, hz⟩ := I.list hq
    refine ⟨_, _, begins_list a its.toArray, p.isList, fun h' he ho hsz hk => ?_⟩
    have hal : a < s.heap.objs.size := p.lt
    have I2 : Inv X pins σ H { s with heap := h' } := I.kept (t' := s.toks) hk
    exact ⟨s.heap.objs.size + 1, [s.heap.objs.size + 1, s.heap.objs.size], _, _, H, rfl, I2, turn_enumL k a (s.heap.objs.size + 1) s.heap.objs.size (Nat.ne_of_lt hal) (Nat.ne_of_lt (Nat.lt_succ_of_lt hal)),
      ⟨⟨.none, by simpa using he⟩, ⟨_, ho, rfl, rfl⟩, Nat.succ_ne_self _⟩, fp, q⟩
  · obtain ⟨its, rv, p, hz⟩ := I.tuple hq
    refine ⟨_, _, begins_tuple a its.toArray, p, fun h' he ho hsz hk => ?_⟩
    have hal : a < s.heap.objs.size := by obtain ⟨o1, ho1, _⟩ := id p; exact Heap.lt_size ho1
    have I2 : Inv X pins σ H { s with heap := h' } := I.kept (t' := s.toks) hk
    exact ⟨s.heap.objs.size + 1, [s.heap.objs.size + 1, s.heap.objs.size], _, _, H, rfl, I2, turn_enumT k a (s.heap.objs.size + 1) s.heap.objs.size (Nat.ne_of_lt hal) (Nat.ne_of_lt (Nat.lt_succ_of_lt hal)),
      ⟨⟨.none, by simpa using he⟩, ⟨_, ho, rfl, rfl⟩, Nat.succ_ne_self _⟩, fp, q⟩
section
variable {M : Model} {A : Around} {E : Value → Shared → Prop} {s : Shared} {env : Env}
theorem callWith_type_kwB {pos : Pos} {id : String} {first : List Value} {args : List (Bool × Sem Value)} {keywords : List (Option Str × Sem Value)} {Q : Value → Shared → Prop}
    (hplain : args.any (·.1) = false) (hkw : keywords.any (·.1.isNone) = false)
    (h : wpAny M A (evalArgs (.type id) true args keywords) (fun a s₁ => wpAny M A (call (.type id) (first ++ a.pos) a.kw) Q E s₁) E s) :
    wpAny M A (callWith pos (.type id) first args keywords) Q E s := by
  unfold callWith
  refine wpAny_bind (wpAny_holding (wpAny_mono h (fun a s₁ h₁ => wpAny_bind (wpAny_standAt ?_)) fun _ _ x => x))
  simp only [hplain, hkw, Bool.or_false]
  refine wpAny_bind (wpAny_pure ?_)
  exact wpAny_bind (wpAny_mono h₁ (fun r s₂ hr => wpAny_bind (wpAny_holding (wpAny_point (wpAny_pure hr)))) fun _ _ x => x)
theorem callWith_type_kw {pos : Pos} {id : String} {e : Expr} {rest : List Expr} {kws : List Keyword} {Q : Value → Shared → Prop}
    (h : wpAny M A (spliced (backTo pos (starEach (e :: rest) env))) (fun vs s₁ => wpAny M A (evalAll ((backToKw pos (keywordEach kws env)).map (·.2)))
      (fun kvs s₂ => wpAny M A (call (.type id) vs (((backToKw pos (keywordEach kws env)).filterMap (·.1)).zip kvs)) Q E s₂) E s₁) E s)
    (he : starEach (e :: rest) env = (false, eval e env) :: starEach rest env := by rfl)
    (hplain : (backTo pos (starEach (e :: rest) env)).any (·.1) = false := by rfl)
    (hall : (backToKw pos (keywordEach kws env)).all (·.1.isSome) = true := by rfl)
    (hkw : (backToKw pos (keywordEach kws env)).any (·.1.isNone) = false := by rfl) :
    wpAny M A (callWith pos (.type id) [] (backTo pos (starEach (e :: rest) env)) (backToKw pos (keywordEach kws env))) Q E s := by
  refine callWith_type_kwB hplain hkw ?_
  exact PyProof.Rows.evalArgs_kw2 hall h he
end
/-- the things of a list or a tuple, frozen or not, and what keeps them -/
def seqAt (M : Mst) : D → Option (Bool × List D × (Mst → Prop))
  | .lst ds => some (false, ds, always)
  | .tup ds => some (true, ds, always)
  | .ktp ds => some (true, ds, always)
  | .xtp ds => some (true, ds, always)
  | .ref a => match M a with
    | some (.lst ds) => some (false, ds, holds a (.lst ds))
    | _ => none
  | _ => none
def iEnum0 (K : PySem.W.Frag) (ta : TA) : TI := fun σ H R => ta σ H fun vs H1 => ∃ a xs, vs = [.ref a] ∧ ((SqL K H1 a xs ∧ R (IeL K 0 a) H1) ∨ (SqT K H1 a xs ∧ R (IeT K 0 a) H1))
def enumDI : Int → List D → List D
  | _, [] => []
  | n, d :: ds => .tup [.int n, d] :: enumDI (n + 1) ds
@[simp] theorem enumDI_length : ∀ (n : Int) (ds : List D), (enumDI n ds).length = ds.length
  | _, [] => rfl
  | n, d :: ds => by simp [enumDI, enumDI_length (n + 1) ds]
theorem enumDI_get : ∀ (n : Int) (ds : List D) (i : Nat), (enumDI n ds)[i]? = (ds[i]?).map fun d => .tup [.int (n + (i : Nat)), d]
  | _, [], i => by simp [enumDI]
  | n, d :: ds, 0 => by simp [enumDI]
  | n, d :: ds, i + 1 => by
    simp only [enumDI, List.getElem?_cons_succ]
    rw [enumDI_get (n + 1) ds i]
    have e : n + 1 + ((i : Nat) : Int) = n + ((i + 1 : Nat) : Int) := by omega
    rw [e]
theorem feed_enumL {K : PySem.W.Frag} {G : Hp} {a : Addr} {k : Int} {ds : List D} {Sty : Mst → Prop} (h : ∀ G' H p M s, Same G G' → Sim K G' H p M s → Sty M → ∃ us, SqL K H a us ∧ RepL K G' ds us) : Feed K G (IeL K k a) (enumDI k ds) Sty where
  go := fun G' H p M s i e S y hi => by
    obtain ⟨us, h1, h2⟩ := h G' H p M s e S y
    obtain ⟨v, hv⟩ := get_lt (xs := us) (i := i) (by rw [h2.length]; simpa using hi)
    exact ⟨us, v, h1, hv⟩
  yld := fun G' H p M s i x H' e S y hy d hd => by
    obtain ⟨T, v, rfl, hT, rfl, hall⟩ := hy
    obtain ⟨us, h1, h2⟩ := h G' H p M s e S y
    rw [enumDI_get] at hd
    obtain ⟨d', hd', rfl⟩ := Option.map_eq_some_iff.mp hd
    obtain ⟨v', hv', rv⟩ := h2.get hd'
    have := (hall us h1).symm.trans hv'
    cases this
    obtain ⟨e2, S2⟩ := S.made (o := .tup [.int (k + (i : Nat)), v]) hT
    exact ⟨_, e2, S2, T, _, rfl, upd_same, RepL.cons (d := .int _) rfl (RepL.cons (Rep.mono e2 _ _ rv) rfl), sz1000 (by simp)⟩
  stop := fun G' H p M s e S y => by
    obtain ⟨us, h1, h2⟩ := h G' H p M s e S y
    exact ⟨us, h1, by rw [h2.length]; simp⟩
theorem feed_enumT {K : PySem.W.Frag} {G : Hp} {a : Addr} {k : Int} {ds : List D} {Sty : Mst → Prop} (h : ∀ G' H p M s, Same G G' → Sim K G' H p M s → Sty M → ∃ us, SqT K H a us ∧ RepL K G' ds us) : Feed K G (IeT K k a) (enumDI k ds) Sty where
  go := fun G' H p M s i e S y hi => by
    obtain ⟨us, h1, h2⟩ := h G' H p M s e S y
    obtain ⟨v, hv⟩ := get_lt (xs := us) (i := i) (by rw [h2.length]; simpa using hi)
    exact ⟨us, v, h1, hv⟩
  yld := fun G' H p M s i x H' e S y hy d hd => by
    obtain ⟨T, v, rfl, hT, rfl, hall⟩ := hy
    obtain ⟨us, h1, h2⟩ := h G' H p M s e S y
    rw [enumDI_get] at hd
    obtain ⟨d', hd', rfl⟩ := Option.map_eq_some_iff.mp hd
    obtain ⟨v', hv', rv⟩ := h2.get hd'
    have := (hall us h1).symm.trans hv'
    cases this
    obtain ⟨e2, S2⟩ := S.made (o := .tup [.int (k + (i : Nat)), v]) hT
    exact ⟨_, e2, S2, T, _, rfl, upd_same, RepL.cons (d := .int _) rfl (RepL.cons (Rep.mono e2 _ _ rv) rfl), sz1000 (by simp)⟩
  stop := fun G' H p M s e S y => by
    obtain ⟨us, h1, h2⟩ := h G' H p M s e S y
    exact ⟨us, h1, by rw [h2.length]; simp⟩
theorem seqAt_feed {K : PySem.W.Frag} {G H : Hp} {p : Rho} {M : Mst} {s : L2.St} {d : D} {v : V} {k : Int} {t : Bool} {ds : List D} {Sty : Mst → Prop} (S : Sim K G H p M s) (r : Rep K G d v) (h : seqAt M d = some (t, ds, Sty)) :
    Sty M ∧ ∃ a xs, v = .ref a ∧ ds.length ≤ sizeLine ∧ ((SqL K H a xs ∧ Feed K G (IeL K k a) (enumDI k ds) Sty) ∨ (SqT K H a xs ∧ Feed K G (IeT K k a) (enumDI k ds) Sty)) := by
  cases d with
  | lst es =>
    cases h
    obtain ⟨a, vs, rfl, h2, h3, h4⟩ := r
    refine ⟨trivial, a, vs, rfl, by rw [← h3.length]; exact h4, .inl ⟨.inl (.inl (S.same _ _ h2)), feed_enumL fun G' H' p' M' s' e S' _ => ⟨vs, .inl (.inl (S'.same _ _ (e _ _ h2))), RepL.mono e _ _ h3⟩⟩⟩
  | tup es =>
    cases h
    obtain ⟨a, vs, rfl, h2, h3, h4⟩ := r
    refine ⟨trivial, a, vs, rfl, by rw [← h3.length]; exact h4, .inr ⟨.inl (.inl (S.same _ _ h2)), feed_enumT fun G' H' p' M' s' e S' _ => ⟨vs, .inl (.inl (S'.same _ _ (e _ _ h2))), RepL.mono e _ _ h3⟩⟩⟩
  | ktp es =>
    cases h
    obtain ⟨a, vs, rfl, h2, h3, h4⟩ := r
    refine ⟨trivial, a, vs, rfl, by rw [← h3.length]; exact h4, .inr ⟨same_t S.same h2, feed_enumT fun G' H' p' M' s' e S' _ => ⟨vs, same_t S'.same (same_t e h2), RepL.mono e _ _ h3⟩⟩⟩
  | xtp es =>
    cases h
    obtain ⟨a, o, vs, rfl, h2, h0, h3, h4⟩ := r
    refine ⟨trivial, a, vs, rfl, by rw [← h3.length]; exact h4, .inr ⟨.inl (.inr ⟨o, S.same _ _ h2⟩), feed_enumT fun G' H' p' M' s' e S' _ => ⟨vs, .inl (.inr ⟨o, S'.same _ _ (e _ _ h2)⟩), RepL.mono e _ _ h3⟩⟩⟩
  | ref a =>
    simp only [seqAt] at h
    split at h
    · next es em =>
      cases h
      cases r
      obtain ⟨gn, vs, h1, h2, h3⟩ := S.mem _ _ em
      refine ⟨em, a, vs, rfl, by rw [← h2.length]; exact h3, .inl ⟨.inl (.inl h1), feed_enumL fun G' H' p' M' s' e S' hm => ?_⟩⟩
      obtain ⟨gn', us, g1, g2, g3⟩ := S'.mem _ _ hm
      exact ⟨us, .inl (.inl g1), g2⟩
    · cases h
  | _ => cases h
def qiEnum0 (qa : DTA) : DTI := fun DW p M R => qa DW p M fun ds M1 => match ds with
  | [x] => match seqAt M1 x with
    | some (_, es, Sty) => R (enumDI 0 es) Sty M1
    | none => False
  | _ => False
section
variable {X : Cx} {W : WX} {e : Expr} {ta tk : TA} {qa qk : DTA} {p pos tpos : Pos} {elts : List Expr} {kws : List Keyword} {kk : Nat}
theorem qi_enum0 (hg : Gl X "enumerate") (hm : X.mg "enumerate" = none) (ha : QA X W [e] ta qa) (hs : starEach [e] X.env = [(false, eval e X.env)] := by rfl) :
    QI X W (.Tuple elts kk tpos) (.Call (.Name "enumerate" p) [e] [] pos) (iEnum0 X.K ta) (qiEnum0 qa) := by
  refine ⟨⟨fun pins s σ H R I h => ?_⟩, fun DW G H p M s R R' hw S h k => ha.rf DW G H p M s _ _ hw S h fun G1 H1 M1 ds vs e1 S1 r1 h1 => ?_⟩
  · refine PyProof.Rows.Call_ (ld_blt I hg hm PyProof.Rows.boot_enumerate (PyProof.Rows.callWith_type1 (thn (ha.pe.run pos pins s σ H _ I h) fun us s1 ⟨vs, H1, I1, r1, q1⟩ => ?_) hs rfl))
    obtain ⟨a, xs, ex, q⟩ := q1
    subst ex
    cases r1 with
    | cons r rr =>
      cases rr
      cases r
      obtain ⟨o, HH, B, b1, fin⟩ := enum_begin (elts := elts) (kk := kk) (tpos := tpos) I1 (by decide) (by decide) q
      exact enum_begins0 B b1 fun h' he ho hsz hk => wpAny_pyIter_enum he (fin h' he ho hsz hk)
  · split at h1
    · next x =>
      obtain ⟨v, rfl, r2⟩ := repL1 r1
      split at h1
      · next t es Sty eo =>
        obtain ⟨sm, a, xs, rfl, hl, hc⟩ := seqAt_feed (k := 0) S1 r2 eo
        refine ⟨a, xs, rfl, ?_⟩
        rcases hc with ⟨c1, c2⟩ | ⟨c1, c2⟩
        · exact .inl ⟨c1, k G1 H1 M1 _ _ _ e1 S1 c2 (by simpa using hl) h1⟩
        · exact .inr ⟨c1, k G1 H1 M1 _ _ _ e1 S1 c2 (by simpa using hl) h1⟩
      · exact h1.elim
    · exact h1.elim
end
end DL
namespace DL
open PySem L2
def stepD {α : Type} (xs : List α) (lo hi : Option Int) (st : Int) : Option (List α) :=
  match lo, hi with
  | none, none => if st = 1 then some xs else if st = -1 then some xs.reverse else none
  | some l, none => if l = 1 ∧ st = -1 then some (xs.take 2).reverse else none
  | _, _ => none
theorem srange_up (n : Nat) : sliceRange 0 (n : Int) 1 = List.range n := by
  unfold sliceRange
  have h1 : (1 : Int) > 0 := by decide
  by_cases h : (0 : Int) < (n : Int)
  · have e : ((n : Int) - 0 + 1 - 1) / 1 = (n : Int) := by rw [Int.ediv_one]; omega
    simp only [h1, if_true, h, e, Int.toNat_natCast]
    refine (List.map_congr_left fun k hk => ?_).trans (List.map_id _)
    show ((0 : Int) + 1 * (k : Int)).toNat = k
    omega
  · have e : n = 0 := by omega
    subst e; simp
theorem pick_up (items : Array Value) : slicePick items none none (some 1) = items := by
  unfold slicePick
  have e : sliceBounds none none (some 1) items.size = (0, (items.size : Int), 1) := by first | rfl | simp [sliceBounds]
  rw [e]
  show ((sliceRange 0 (items.size : Int) 1).filterMap (items[·]?)).toArray = _
  rw [srange_up, PySem.W.krv_all]
theorem pick_two (items : Array Value) : slicePick items (some 1) none (some (-1)) = (items.toList.take 2).reverse.toArray := by
  unfold slicePick
  have e : sliceBounds (some 1) none (some (-1)) items.size = (max (-1) (min 1 ((items.size : Int) - 1)), -1, -1) := by
    simp [sliceBounds]
  rw [e]
  show ((sliceRange (max (-1) (min 1 ((items.size : Int) - 1))) (-1) (-1)).filterMap (items[·]?)).toArray = _
  by_cases h0 : items.size = 0
  · have e0 : items = #[] := Array.eq_empty_of_size_eq_zero h0
    subst e0; rfl
  · by_cases h1 : items.size = 1
    · have e1 : max (-1) (min (1 : Int) ((items.size : Int) - 1)) = 0 := by omega
      rw [e1]
      have e2 : sliceRange 0 (-1) (-1) = [0] := by decide
      rw [e2]
      obtain ⟨a, ha⟩ : ∃ a, items = #[a] := by
        match items, h1 with
        | ⟨[a]⟩, _ => exact ⟨a, rfl⟩
      subst ha; rfl
    · have e1 : max (-1) (min (1 : Int) ((items.size : Int) - 1)) = 1 := by omega
      rw [e1]
      have e2 : sliceRange 1 (-1) (-1) = [1, 0] := by decide
      rw [e2]
      obtain ⟨a, b, r, ha⟩ : ∃ a b r, items = ⟨a :: b :: r⟩ := by
        match items, h0, h1 with
        | ⟨a :: b :: r⟩, _, _ => exact ⟨a, b, r, rfl⟩
      subst ha; rfl
theorem pick_step {items : Array Value} {lo hi : Option Int} {st : Int} {ys : List Value} (h : stepD items.toList lo hi st = some ys) : slicePick items lo hi (some st) = ys.toArray ∧ st ≠ 0 := by
  unfold stepD at h
  split at h
  · split at h
    · next e => cases h; subst e; exact ⟨by rw [pick_up], by decide⟩
    · split at h
      · next e => cases h; subst e; exact ⟨by rw [PySem.W.krv_pick], by decide⟩
      · cases h
  · split at h
    · next e => cases h; obtain ⟨rfl, rfl⟩ := e; exact ⟨by rw [pick_two], by decide⟩
    · cases h
  · cases h
theorem step_rel {α β : Type} {P : List α → List β → Prop} {xs : List α} {ys : List β} {lo hi : Option Int} {st : Int} {us : List α} (h : stepD xs lo hi st = some us) (h0 : P xs ys) (h1 : P xs.reverse ys.reverse) (h2 : P (xs.take 2).reverse (ys.take 2).reverse) : ∃ vs, stepD ys lo hi st = some vs ∧ P us vs := by
  unfold stepD at h ⊢
  split at h
  · split at h
    · next e => cases h; exact ⟨ys, by rw [if_pos e], h0⟩
    · next e0 =>
      split at h
      · next e => cases h; exact ⟨ys.reverse, by rw [if_neg e0, if_pos e], h1⟩
      · cases h
  · split at h
    · next e => cases h; exact ⟨_, by rw [if_pos e], h2⟩
    · cases h
  · cases h
theorem step_len {α : Type} {xs us : List α} {lo hi : Option Int} {st : Int} (h : stepD xs lo hi st = some us) : us.length ≤ xs.length := by
  unfold stepD at h
  split at h
  · split at h
    · cases h; exact Nat.le_refl _
    · split at h
      · cases h; rw [List.length_reverse]; exact Nat.le_refl _
      · cases h
  · split at h
    · cases h; rw [List.length_reverse, List.length_take]; omega
    · cases h
  · cases h
section
variable {prog : Program} {w : World} {A : Around} {E : Value → Shared → Prop} {s : Shared}
theorem sliceApplied_st {sl : Addr} {vl vu vs : Value} {lo hi : Option Int} {st : Int} {n : Nat} {Q : Int × Int × Nat → Shared → Prop} (hs : s.heap.IsSliceOf sl vl vu vs) (pl : IsPart vl lo) (pu : IsPart vu hi) (ps : IsPart vs (some st)) (h0 : st ≠ 0)
    (h : Q ((Builtin.Slice.sliceAdjust lo hi st (n : Int)).1, st, Builtin.Slice.slicePlaces (Builtin.Slice.sliceAdjust lo hi st (n : Int)).1 (Builtin.Slice.sliceAdjust lo hi st (n : Int)).2 st) s) : wpAny (model prog w) A (Builtin.Slice.sliceApplied (.ref sl) (pure (n : Int))) Q E s := by
  obtain ⟨os, hos, hcs, hds⟩ := id hs
  unfold Builtin.Slice.sliceApplied Builtin.Slice.sliceFields
  refine wpAny_bind (wpAny_bind (wpAny_field hos hds (x := vl) rfl (wpAny_bind (wpAny_field hos hds (x := vu) rfl (wpAny_bind (wpAny_field hos hds (x := vs) rfl (wpAny_pure ?_)))))))
  refine wpAny_bind (HT.slicePart_ ps ?_)
  show wpAny _ _ (if (st == 0) = true then _ else _) _ _ s
  rw [if_neg (by simpa using h0)]
  refine wpAny_bind (HT.slicePart_ pl (wpAny_bind (HT.slicePart_ pu (wpAny_bind (wpAny_pure ?_)))))
  exact wpAny_pure h
end
theorem tpick {xs : Array Value} {lo hi : Option Int} {st : Int} {ys : List Value} (h : stepD xs.toList lo hi st = some ys) :
    ((List.range (Builtin.Slice.slicePlaces (Builtin.Slice.sliceAdjust lo hi st (xs.size : Int)).1 (Builtin.Slice.sliceAdjust lo hi st (xs.size : Int)).2 st)).filterMap fun (k : Nat) => xs[((Builtin.Slice.sliceAdjust lo hi st (xs.size : Int)).1 + (k : Int) * st).toNat]?).toArray = ys.toArray := by
  unfold stepD at h
  split at h
  · split at h
    · next e =>
      cases h; subst e
      rw [HT.adjust_gen, HT.places_gen]
      show ((List.range (xs.size - 0)).filterMap fun (k : Nat) => xs[(((0 : Nat) : Int) + (k : Int) * 1).toNat]?).toArray = _
      rw [HT.pick_gen]
      simp only [List.drop_zero, Nat.sub_zero]
      rw [List.take_of_length_le (by rw [Array.length_toList]; exact Nat.le_refl _)]
    · split at h
      · next e =>
        cases h; subst e
        have e1 : Builtin.Slice.sliceAdjust none none (-1) (xs.size : Int) = ((xs.size : Int) - 1, -1) := by first | rfl | simp [Builtin.Slice.sliceAdjust]
        have e2 : Builtin.Slice.slicePlaces ((xs.size : Int) - 1) (-1) (-1) = xs.size := by
          unfold Builtin.Slice.slicePlaces
          have h1 : ¬ ((-1 : Int) > 0) := by decide
          simp only [h1, if_false]
          split
          · rw [show (- -1 : Int) = 1 by decide, Int.ediv_one]; omega
          · show (0 : Int).toNat = _
            have : (0 : Int).toNat = 0 := rfl
            omega
        rw [e1, e2]
        have e3 : (fun (k : Nat) => xs[((xs.size : Int) - 1 + (k : Int) * -1).toNat]?) = (xs[·]?) ∘ fun k : Nat => (((xs.size : Int) - 1) - (k : Int)).toNat := by
          funext k
          show xs[((xs.size : Int) - 1 + (k : Int) * -1).toNat]? = xs[(((xs.size : Int) - 1) - (k : Int)).toNat]?
          congr 1; congr 1; omega
        show ((List.range xs.size).filterMap fun (k : Nat) => xs[((xs.size : Int) - 1 + (k : Int) * -1).toNat]?).toArray = _
        rw [e3, ← List.filterMap_map]
        have e4 : (List.range xs.size).map (fun k : Nat => (((xs.size : Int) - 1) - (k : Int)).toNat) = (List.range xs.size).map fun k => xs.size - 1 - k := List.map_congr_left fun k hk => by
          have := List.mem_range.mp hk; omega
        rw [e4, PySem.W.krv_range, List.filterMap_reverse, PySem.W.krv_all]
      · cases h
  · split at h
    · next e =>
      cases h; obtain ⟨rfl, rfl⟩ := e
      by_cases h0 : xs.size = 0
      · have e0 : xs = #[] := Array.eq_empty_of_size_eq_zero h0
        subst e0; rfl
      · by_cases h1 : xs.size = 1
        · obtain ⟨a, ha⟩ : ∃ a, xs = #[a] := by
            match xs, h1 with
            | ⟨[a]⟩, _ => exact ⟨a, rfl⟩
          subst ha
          have e1 : Builtin.Slice.sliceAdjust (some 1) none (-1) ((#[a] : Array Value).size : Int) = (0, -1) := by
            show Builtin.Slice.sliceAdjust (some 1) none (-1) (1 : Int) = _
            decide
          rw [e1]
          have e2 : Builtin.Slice.slicePlaces 0 (-1) (-1) = 1 := by decide
          rw [e2]; rfl
        · have e1 : Builtin.Slice.sliceAdjust (some 1) none (-1) (xs.size : Int) = (1, -1) := by
            unfold Builtin.Slice.sliceAdjust
            simp
            first | omega | (split <;> omega) | skip
          rw [e1]
          have e2 : Builtin.Slice.slicePlaces 1 (-1) (-1) = 2 := by decide
          rw [e2]
          obtain ⟨a, b, r, ha⟩ : ∃ a b r, xs = ⟨a :: b :: r⟩ := by
            match xs, h0, h1 with
            | ⟨a :: b :: r⟩, _, _ => exact ⟨a, b, r, rfl⟩
          subst ha; rfl
    · cases h
  · cases h
section
variable {prog : Program} {w : World} {A : Around} {E : Value → Shared → Prop} {s : Shared}
theorem getItem_tuple_step {t sl : Addr} {items : Array Value} {vl vu vs : Value} {lo hi : Option Int} {st : Int} {ys : List Value} {Q : Value → Shared → Prop} (ht : PyProof.Rows.IsTup s.heap t items) (hs : s.heap.IsSliceOf sl vl vu vs) (pl : IsPart vl lo) (pu : IsPart vu hi) (ps : IsPart vs (some st))
    (hy : stepD items.toList lo hi st = some ys) (h0 : st ≠ 0)
    (key : Q (.ref s.heap.objs.size) { s with heap := s.heap.push { cls := .type "tuple", data := .seq ys.toArray } }) (hw : st = 1 → Q (.ref t) s)
    (hsz : items.toList.length ≤ sizeLine) : wpAny (model prog w) A (getItem (.ref t) (.ref sl)) Q E s := by
  have hpick := tpick hy
  have hlen := step_len hy
  have hsy : sizeOk (.seq ys.toArray) := by
    show ys.toArray.size ≤ sizeLine
    rw [List.size_toArray]
    exact Nat.le_trans hlen hsz
  obtain ⟨os, hos, hcs, hds⟩ := id hs
  have hTs : s.TypeIs (.ref sl) "slice" := ⟨os, hos, hcs⟩
  unfold getItem
  try with_reducible refine wpAny_holding ?_
  first | refine wpAny_bind (wpAny_pure ?_) | skip
  refine wpAny_bind (wpAny_sequenceKey ht.typeIs (by decide) ?_)
  refine wpAny_bind (wpAny_callSpecial?_slot (name := Str.ofString "__getitem__") ht.typeIs PyProof.Rows.slot_tuple_getitem
    (wpAny_call_entry PyProof.Rows.slot_tuple_getitem ht.typeIs PyProof.Rows.entry_tuple_getitem ?_ (PyProof.Rows.args_tuple_getitem _ _)))
  show wpAny _ _ (Builtin.Tuple.tupleItemsOf (.ref t) >>= _) _ _ s
  refine wpAny_bind (PyProof.Rows.tupleItemsOf_ ht ?_)
  refine wpAny_bind (wpAny_typeOf hTs ?_)
  rw [if_pos (by decide)]
  refine wpAny_bind (sliceApplied_st hs pl pu ps h0 ?_)
  show wpAny _ _ (if ((Builtin.Slice.sliceAdjust lo hi st (items.size : Int)).1 == 0 && st == 1 && Builtin.Slice.slicePlaces (Builtin.Slice.sliceAdjust lo hi st (items.size : Int)).1 (Builtin.Slice.sliceAdjust lo hi st (items.size : Int)).2 st == items.size) = true then _ else _) _ _ s
  by_cases hc : ((Builtin.Slice.sliceAdjust lo hi st (items.size : Int)).1 == 0 && st == 1 && Builtin.Slice.slicePlaces (Builtin.Slice.sliceAdjust lo hi st (items.size : Int)).1 (Builtin.Slice.sliceAdjust lo hi st (items.size : Int)).2 st == items.size) = true
  · rw [if_pos hc]
    rw [Bool.and_eq_true, Bool.and_eq_true] at hc
    have c2 : st = 1 := eq_of_beq hc.1.2
    refine wpAny_bind (m := Builtin.Tuple.tupleIsExact _) ?_
    unfold Builtin.Tuple.tupleIsExact
    refine wpAny_bind (wpAny_typeOf ht.typeIs (wpAny_pure ?_))
    rw [if_pos (by decide)]
    exact wpAny_bind (wpAny_rule (wpAny_bind (wpAny_pure (wpAny_pure ⟨_, rfl, wpAny_pure (hw c2)⟩))))
  · rw [if_neg hc, hpick]
    first
      | exact wpAny_bind (m := Builtin.Tuple.tupleExact _) (wpAny_newObj_type (wpAny_pure ⟨_, rfl, wpAny_pure key⟩) hsy)
      | exact wpAny_bind (m := Builtin.Tuple.tupleExact _) (wpAny_newObj_type (wpAny_bind (wpAny_pure (wpAny_pure ⟨_, rfl, wpAny_pure key⟩))) hsy)
      | exact wpAny_bind (wpAny_bind (m := Builtin.Tuple.tupleExact _) (wpAny_newObj_type (wpAny_pure (wpAny_pure ⟨_, rfl, wpAny_pure key⟩)) hsy))
      | exact wpAny_bind (wpAny_bind (m := Builtin.Tuple.tupleExact _) (wpAny_newObj_type (wpAny_pure ⟨_, rfl, wpAny_pure key⟩) hsy))
end
/-- e[lo:hi:st] -/
def dStep (m : Bool) (x : D) (lo hi : Option Int) (st : Int) (M : Mst) (Q : DK) : Prop := match x with
  | .tup ds => match stepD ds lo hi st with
    | some ys => Q (.tup ys) M
    | none => False
  | _ => match res M x with
    | .lst ds => match stepD ds lo hi st with
      | some ys => newL m ys M Q
      | none => False
    | _ => False
def qStep (m : Bool) (qe : DTE) (ql qh qs : DTO) : DTE := fun DW p M Q => qe DW p M fun x M1 => ql DW p M1 fun l M2 => qh DW p M2 fun u M3 => qs DW p M3 fun st M4 => match st with
  | some c => dStep m x l u c M4 Q
  | none => False
def rStepX (K : PySem.W.Frag) : V → Option Int → Option Int → Int → Hp → VK → Prop := fun x lo hi st H Q => ∃ a, x = .ref a ∧ ((∃ xs ys, SqL K H a xs ∧ stepD xs lo hi st = some ys ∧ ∀ p, H p = none → Q (.ref p) (upd H p (.lst ys))) ∨
  (∃ xs ys, SqT K H a xs ∧ stepD xs lo hi st = some ys ∧ (ys = xs → Q (.ref a) H) ∧ ∀ p, H p = none → Q (.ref p) (upd H p (.tup ys))))
def tStep (r : V → Option Int → Option Int → Int → Hp → VK → Prop) (te : TE) (tl th ts : TO) : TE := fun σ H Q => te σ H fun x H1 => tl σ H1 fun l H2 => th σ H2 fun u H3 => ts σ H3 fun st H4 => ∃ c, st = some c ∧ r x l u c H4 Q
theorem vals_step {xs : List V} {its : List Value} (r : Vals xs its) {lo hi : Option Int} {st : Int} {ys : List V} (h : stepD xs lo hi st = some ys) : ∃ zs, stepD its lo hi st = some zs ∧ Vals ys zs :=
  step_rel (P := Vals) h r r.reverse (r.take 2).reverse
section
variable {X : Cx} {W : WX} {e : Expr} {te : TE} {qe : DTE} {lo hi : Option Expr} {ste : Expr} {tl th ts : TO} {ql qh qs : DTO} {pos p2 : Pos}
theorem pe_step (he : PE X e te) (hl : PO X lo tl) (hh : PO X hi th) (hs : PO X (some ste) ts) : PE X (.Subscript e (.Slice lo hi (some ste) p2) pos) (tStep (rStepX X.K) te tl th ts) := by
  refine ⟨fun pins s σ H Q I h => ?_⟩
  refine PyProof.Rows.Subscript_ (thn (he.run pins s σ H _ I h) fun v s1 ⟨x, H1, I1, r1, q1⟩ => ?_)
  refine wpAny_Slice (thn (hl.run pins s1 σ H1 _ I1 q1) fun vl s2 ⟨l, H2, I2, pl, q2⟩ => ?_)
  refine thn (hh.run pins s2 σ H2 _ I2 q2) fun vu s3 ⟨u, H3, I3, pu, q3⟩ => ?_
  refine thn (hs.run pins s3 σ H3 _ I3 q3) fun vs s4 ⟨o, H4, I4, ps, q4⟩ => ?_
  obtain ⟨c, rfl, a, rfl, q4⟩ := q4
  cases r1
  have I5 : Inv X pins σ H4 { s4 with heap := s4.heap.push { cls := .type "slice", data := .fields #[vl, vu, vs] } } := I4.kept (t' := s4.toks) fun b ob q => Heap.get?_push_of_some _ q
  show wpAny (model X.prog X.w) X.A (PyProof.Rows.subscriptTail e (.Slice lo hi (some ste) p2) (.ref a) (.ref s4.heap.objs.size)) (EP X pins σ Q) X.xe { s4 with heap := s4.heap.push { cls := .type "slice", data := .fields #[vl, vu, vs] } }
  rcases q4 with ⟨xs, ys, hx, hy, q⟩ | ⟨xs, ys, hx, hy, qw, q⟩
  · obtain ⟨its, r, ht, hz⟩ := I5.list hx
    obtain ⟨zs, hzs, rz⟩ := vals_step r hy
    have hps := pick_step (items := its.toArray) (lo := l) (hi := u) (st := c) (ys := zs) (by simpa using hzs)
    have hle := step_len hy
    refine PyProof.Rows.tail_any (ops := [.ref a, .ref s4.heap.objs.size]) ht.isList.typeIs (PySem.slot_list_getitem.lookup) ?_ (by with_unfolding_all rfl)
    refine wpAny_getItem_list_slice ht.isList (Heap.IsSliceOf.new _ vl vu vs) pl pu ps (by simpa using hps.2) ?_ (by rw [List.size_toArray, ← r.length]; exact hz)
    rw [hps.1]
    refine ⟨.ref _, _, I5.laid (t' := s4.toks) (o := .lst ys) (fun b ob q => Heap.get?_push_of_some _ q) (Nat.le_refl _) ?_, rfl, q _ (I5.hok.fresh (Nat.le_refl _))⟩
    exact ⟨Nat.le_trans hle hz, _, 0, rz, Heap.get?_push_size _ rfl⟩
  · obtain ⟨its, r, ht, hz⟩ := I5.tuple hx
    obtain ⟨zs, hzs, rz⟩ := vals_step r hy
    have hps := pick_step (items := its.toArray) (lo := l) (hi := u) (st := c) (ys := zs) (by simpa using hzs)
    have hle := step_len hy
    refine PyProof.Rows.tail_any (ops := [.ref a, .ref s4.heap.objs.size]) ht.typeIs (PyProof.Rows.slot_tuple_getitem.lookup) ?_ (by with_unfolding_all rfl)
    have new : EP X pins σ Q (.ref (s4.heap.push { cls := .type "slice", data := .fields #[vl, vu, vs] }).objs.size) { s4 with heap := (s4.heap.push { cls := .type "slice", data := .fields #[vl, vu, vs] }).push { cls := .type "tuple", data := .seq zs.toArray } } := by
      refine ⟨.ref _, _, I5.laid (t' := s4.toks) (o := .tup ys) (fun b ob q => Heap.get?_push_of_some _ q) (Nat.le_refl _) ?_, rfl, q _ (I5.hok.fresh (Nat.le_refl _))⟩
      exact ⟨Nat.le_trans hle hz, _, rz, PyProof.Rows.IsTup.new _ _⟩
    refine getItem_tuple_step ht (Heap.IsSliceOf.new _ vl vu vs) pl pu ps (by simpa using hzs) hps.2 new (fun e1 => ?_) (by simpa [← r.length] using hz)
    have eyx : ys = xs := by
      subst e1
      unfold stepD at hy
      split at hy
      · exact (Option.some.inj (by simpa using hy)).symm
      · simp at hy
      · cases hy
    exact ⟨.ref a, H4, I5, rfl, qw eyx⟩
theorem q_step (m : Bool) (he : QE X W e te qe) (hl : QO X W lo tl ql) (hh : QO X W hi th qh) (hs : QO X W (some ste) ts qs) : QE X W (.Subscript e (.Slice lo hi (some ste) p2) pos) (tStep (rStepX X.K) te tl th ts) (qStep m qe ql qh qs) :=
  ⟨pe_step he.pe hl.pe hh.pe hs.pe, fun DW G H p M s Q Q' hw S h k => he.rf DW G H p M s _ _ hw S h fun G1 H1 M1 x v e1 S1 r1 h1 =>
    hl.rf DW G1 H1 p M1 s _ _ (hw.mono e1) S1 h1 fun G2 H2 M2 l e2 S2 h2 => hh.rf DW G2 H2 p M2 s _ _ (hw.mono (e1.trans e2)) S2 h2 fun G3 H3 M3 u e3 S3 h3 =>
      hs.rf DW G3 H3 p M3 s _ _ (hw.mono ((e1.trans e2).trans e3)) S3 h3 fun G4 H4 M4 st e4 S4 h4 => by
        cases st with
        | none => exact h4.elim
        | some c =>
          refine ⟨c, rfl, ?_⟩
          have r4 := Rep.mono ((e2.trans e3).trans e4) _ _ r1
          have kk : ∀ G' H' M' d w, Same G4 G' → Sim X.K G' H' p M' s → Rep X.K G' d w → Q d M' → Q' w H' := fun G' H' M' d w e5 => k G' H' M' d w ((((e1.trans e2).trans e3).trans e4).trans e5)
          have lst : ∀ ds ys, res M4 x = .lst ds → stepD ds l u c = some ys → newL m ys M4 Q → rStepX X.K v l u c H4 Q' := fun ds ys hr hy hq => by
            obtain ⟨a, vs, rfl, g1, g2, g3⟩ := as_lst S4 r4 hr
            obtain ⟨zs, hz, rz⟩ := step_rel (P := RepL X.K G4) hy g2 (RepL.reverse g2) (RepL.reverse (RepL.take 2 g2))
            exact ⟨a, rfl, .inl ⟨vs, zs, .inl (.inl g1), hz, fun q hq' => newL_ok S4 hq' rz (Nat.le_trans (step_len hz) g3) hq kk⟩⟩
          have gen : (match res M4 x with
              | .lst ds => match stepD ds l u c with
                | some ys => newL m ys M4 Q
                | none => False
              | _ => False) → rStepX X.K v l u c H4 Q' := fun h5 => by
            cases hr : res M4 x with
            | lst ds =>
              rw [hr] at h5
              cases hy : stepD ds l u c with
              | none => simp only [hy] at h5
              | some ys => simp only [hy] at h5; exact lst ds ys hr hy h5
            | _ => rw [hr] at h5; exact h5.elim
          cases x with
          | tup ds =>
            simp only [dStep] at h4
            cases hy : stepD ds l u c with
            | none => simp only [hy] at h4
            | some ys =>
              simp only [hy] at h4
              obtain ⟨a, vs, rfl, g1, g2, g3⟩ := r4
              obtain ⟨zs, hz, rz⟩ := step_rel (P := RepL X.K G4) hy g2 (RepL.reverse g2) (RepL.reverse (RepL.take 2 g2))
              refine ⟨a, rfl, .inr ⟨vs, zs, .inl (.inl (S4.same _ _ g1)), hz, fun ez => ?_, fun q hq' => newT_ok S4 hq' rz (Nat.le_trans (step_len hz) g3) h4 kk⟩⟩
              subst ez
              exact kk G4 H4 M4 (.tup ys) _ (Same.refl _) S4 ⟨a, zs, rfl, g1, rz, g3⟩ h4
          | _ => exact gen h4⟩
end
end DL
namespace DL
open PySem L2
section
variable {X : Cx}
def rTupX (K : PySem.W.Frag) : List V → Hp → VK → Prop := fun xs H Q => ∃ p ys, xs = [.ref p] ∧ ((SqL K H p ys ∧ ∀ l o, o.dict = none → H l = none → Q (.ref l) (upd H l (.frz o (.tup ys)))) ∨ (SqT K H p ys ∧ Q (.ref p) H))
theorem call_tupleX : CallR X (.type "tuple") (rTupX X.K) := by
  intro pins s σ H xs us Q I r h
  obtain ⟨p, ys, rfl, h⟩ := h
  obtain ⟨u, rfl, rx⟩ := vals1 r
  cases rx
  rcases h with ⟨hq, q⟩ | ⟨hq, q⟩
  · obtain ⟨its, r', pl, hz⟩ := I.list hq
    have hlen := r'.length
    refine call_tuple_list pl.isList (fun h' kp => ?_) (by simp only [List.size_toArray] <;> omega)
    have I1 : Inv X pins σ H { s with heap := h' } := I.kept (t' := s.toks) kp
    have I2 : Inv X pins σ (upd H h'.objs.size (.frz { cls := .type "tuple", data := .seq its.toArray } (.tup ys))) { s with heap := h'.push { cls := .type "tuple", data := .seq its.toArray } } :=
      I1.laid (t' := s.toks) (fun b o e => Heap.get?_push_of_some _ e) (Nat.le_refl _) (show ObjOk X.prog X.w _ _ _ (.frz _ (.tup ys)) from ⟨Heap.get?_push_size _ rfl, hz, its, r', _, Heap.get?_push_size _ rfl, rfl, _, rfl⟩)
    exact ⟨.ref h'.objs.size, _, I2, rfl, q _ _ rfl (I1.hok.fresh (Nat.le_refl _))⟩
  · obtain ⟨its, r', pl, hz⟩ := I.tuple hq
    exact call_tuple_same pl ⟨.ref p, H, I, rfl, q⟩
end
def dTupX : DCa := fun ds M Q => match ds with
  | [.tup es] => Q (.tup es) M
  | [.xtp es] => Q (.xtp es) M
  | [x] => match res M x with
    | .lst es => Q (.xtp es) M
    | _ => False
  | _ => False
theorem c_tupleX {X : Cx} : QCa X (.type "tuple") (rTupX X.K) dTupX := ⟨call_tupleX, fun G H p M s ds vs Q Q' S r h k => by
  unfold dTupX at h
  split at h
  · next es =>
    obtain ⟨v, rfl, r1⟩ := repL1 r
    obtain ⟨a, us, rfl, g1, g2, g3⟩ := r1
    exact ⟨a, us, rfl, .inr ⟨.inl (.inl (S.same _ _ g1)), k G H M (.tup es) _ (Same.refl _) S ⟨a, us, rfl, g1, g2, g3⟩ h⟩⟩
  · next es =>
    obtain ⟨v, rfl, r1⟩ := repL1 r
    obtain ⟨a, o, us, rfl, g1, g0, g2, g3⟩ := r1
    exact ⟨a, us, rfl, .inr ⟨.inl (.inr ⟨o, S.same _ _ g1⟩), k G H M (.xtp es) _ (Same.refl _) S ⟨a, o, us, rfl, g1, g0, g2, g3⟩ h⟩⟩
  · next x _ _ =>
    obtain ⟨v, rfl, r1⟩ := repL1 r
    split at h
    · next es e1 =>
      obtain ⟨a, us, rfl, g1, g2, g3⟩ := as_lst S r1 e1
      refine ⟨a, us, rfl, .inl ⟨.inl (.inl g1), fun q o ho hq => ?_⟩⟩
      obtain ⟨e, S'⟩ := S.made (o := .frz o (.tup us)) hq
      exact k _ _ _ (.xtp es) _ e S' ⟨q, o, us, rfl, upd_same, ho, RepL.mono e _ _ g2, g3⟩ h
    · exact h.elim
  · exact h.elim⟩
section
variable {X : Cx}
/-- what may stand as the argument: a list of pairs, or a tuple of them whose object is known -/
def rDictP (K : PySem.W.Frag) : List V → Hp → VK → Prop := fun xs H Q => ∃ (a : Addr) (ps : List Addr) (kvs : List (Key × V)), xs = [.ref a] ∧ (SqL K H a (ps.map V.ref) ∨ ∃ o, H a = some (.frz o (.tup (ps.map V.ref))) ∧ o.dict = none) ∧
  Paired (fun p kv => SqT K H p [kV kv.1, kv.2]) ps kvs ∧ kvs.length ≤ sizeLine ∧ ∀ p, H p = none → Q (.ref p) (upd H p (.dK (mergeK [] kvs)))
theorem call_dictPX (hcalm : X.calm = true) : CallR X (.type "dict") (rDictP X.K) := by
  intro pins s σ H xs us Q I r h
  obtain ⟨a, ps, kvs, rfl, hq, hp, hl, q⟩ := h
  obtain ⟨u, rfl, rx⟩ := vals1 r
  cases rx
  obtain ⟨prs, vps, rel, l1, l2, hv⟩ := pairs_vals I hp
  have hm : prs.length = kvs.length := rel.length.symm
  have PI : PairItems s.heap (ps.map Value.ref).toArray (fun j => ps.getD j 0) vps := ⟨by simp [l2], fun j k v e => by
    obtain ⟨t, q2, e1, e2, _, _⟩ := hv j k v e
    have e3 : ps.getD j 0 = t := by simp [List.getD, e1]
    exact ⟨by simp [e1, e3], by show PairAt s.heap (ps.getD j 0) k v; rw [e3]; exact .inl e2⟩⟩
  have hc : PairsHave (mixKind X.prog X.w) vps.length (PairRel vps) prs := ⟨by omega, fun i k v e => by
    obtain ⟨t, q2, _, _, e3, e4⟩ := hv i k v e
    exact ⟨q2, e3, e4⟩⟩
  have fin : ∀ h' tk, h'.DictOf (mixKind X.prog X.w) s.heap.objs.size (merged [] prs) → (∀ b o, b ∉ ([] : List Addr) → s.heap.get? b = some o → h'.get? b = some o) →
      EP X pins σ Q (.ref s.heap.objs.size) { s with heap := h', toks := tk } := fun h' tk dd' hk => by
    have hm' : (s.heap.objs.size == sysModules) = false := beq_eq_false_iff_ne.mpr (Nat.ne_of_gt I.big)
    have hlen : (mergeK [] kvs).length ≤ sizeLine := Nat.le_trans (length_mergeK kvs []) (by simpa using hl)
    exact ⟨.ref s.heap.objs.size, upd H s.heap.objs.size (.dK (mergeK [] kvs)), I.laid (t' := tk) (fun b o e => hk b o (by simp) e) (Nat.le_refl _)
      (show ObjOk X.prog X.w _ _ _ (.dK (mergeK [] kvs)) from ⟨hlen, hm', merged [] prs, KV.merge rel .nil, dd'⟩), rfl, q _ (I.hok.fresh (Nat.le_refl _))⟩
  rcases hq with hq | ⟨o, ho, hd⟩
  · obtain ⟨its, rv2, pl, hz⟩ := I.list hq
    have ei := refs_at rv2
    subst ei
    obtain ⟨o, n, ho, hc', hdi, hdat⟩ := pl
    exact call_dict_pairs (knd := mixKind X.prog X.w) (kvs := prs) (PairArg.list (prog := X.prog) (w := X.w) a (ps.map Value.ref).toArray (fun j => ps.getD j 0) vps) (I.ok.hd hcalm) ⟨⟨o, n, ho, hc', hdi, hdat⟩, PI⟩ hc (by omega) fin
  · obtain ⟨e0, hz, its, rv2, ob, e1, c1, n, d1⟩ := (show ObjOk X.prog X.w H s.heap a (.frz o (.tup (ps.map V.ref))) from I.hok a _ ho)
    rw [e0] at e1
    cases e1
    have ei := refs_at rv2
    subst ei
    exact call_dict_pairs (knd := mixKind X.prog X.w) (kvs := prs) (PairArg.tuple (prog := X.prog) (w := X.w) a (ps.map Value.ref).toArray (fun j => ps.getD j 0) vps) (I.ok.hd hcalm) ⟨⟨o, n, e0, c1, hd, d1⟩, PI⟩ hc (by omega) fin
end
def dDict : DCa := fun ds M Q => match ds with
  | [.xtp es] => match pairsD es with
    | some more => more.length ≤ 100000 ∧ ∀ p, M p = none → Q (.ref p) (put M p (.dK (putAllD [] more)))
    | none => False
  | [x] => match res M x with
    | .lst es => match pairsD es with
      | some more => more.length ≤ 100000 ∧ ∀ p, M p = none → Q (.ref p) (put M p (.dK (putAllD [] more)))
      | none => False
    | _ => False
  | _ => False
theorem newD_ok {K : PySem.W.Frag} {G H : Hp} {p : Rho} {M : Mst} {s : L2.St} {a : Addr} {more : List (Key × D)} {mv : List (Key × V)} {Q : DK} {Q' : VK} (S : Sim K G H p M s) (hn : H a = none)
    (h1 : mv.map (·.1) = more.map (·.1)) (h2 : RepL K G (more.map (·.2)) (mv.map (·.2))) (h3 : ∀ q ∈ more, kOk q.1) (hl : more.length ≤ 100000) (h : ∀ p, M p = none → Q (.ref p) (put M p (.dK (putAllD [] more))))
    (k : ∀ G' H' M' d w, Same G G' → Sim K G' H' p M' s → Rep K G' d w → Q d M' → Q' w H') : Q' (.ref a) (upd H a (.dK (mergeK [] mv))) := by
  obtain ⟨z1, z2⟩ := putAll_rel (kvs := []) (kv := []) h1 h2 rfl rfl
  have l2 : mv.length = more.length := by have := congrArg List.length h1; simpa using this
  have hz := sizeLine_eq
  have := length_mergeK mv []
  refine k G _ _ (.ref a) _ (Same.refl _) (S.put (mo := .dK (putAllD [] more)) (S.same.free hn) ⟨_, upd_same, z1, z2, ?_, putAll_keys (fun _ h => by cases h) h3⟩) rfl (h a (S.mem.fresh hn))
  simp at this
  omega
theorem c_dict {X : Cx} (hc : X.calm = true) : QCa X (.type "dict") (rDictP X.K) dDict := ⟨call_dictPX hc, fun G H p M s ds vs Q Q' S r h k => by
  have hz := sizeLine_eq
  unfold dDict at h
  split at h
  · next es =>
    obtain ⟨v, rfl, r1⟩ := repL1 r
    obtain ⟨a, o, us, rfl, g1, g0, g2, g3⟩ := r1
    split at h
    · next more hm =>
      obtain ⟨hl, h⟩ := h
      obtain ⟨ps, mv, rfl, q2, q3, q4, q5⟩ := pairsD_of S.same g2 hm
      have l2 : mv.length = more.length := by have := congrArg List.length q3; simpa using this
      exact ⟨a, ps, mv, rfl, .inr ⟨o, S.same _ _ g1, g0⟩, q2, by omega, fun q hq => newD_ok S hq q3 q4 q5 hl h k⟩
    · exact h.elim
  · next x _ =>
    obtain ⟨v, rfl, r1⟩ := repL1 r
    split at h
    · next es e1 =>
      obtain ⟨a, us, rfl, g1, g2, g3⟩ := as_lst S r1 e1
      split at h
      · next more hm =>
        obtain ⟨hl, h⟩ := h
        obtain ⟨ps, mv, rfl, q2, q3, q4, q5⟩ := pairsD_of S.same g2 hm
        have l2 : mv.length = more.length := by have := congrArg List.length q3; simpa using this
        exact ⟨a, ps, mv, rfl, .inl (.inl (.inl g1)), q2, by omega, fun q hq => newD_ok S hq q3 q4 q5 hl h k⟩
      · exact h.elim
    · exact h.elim
  · exact h.elim⟩
end DL
namespace DL
open PySem PySem.Spec PyProof.Rows SS
/-- how many are met for the first time among the first i -/
def metS (xs : List Str) : Nat → Nat
  | 0 => 0
  | i + 1 => if (xs.take i).any (· == xs.getD i Str.empty) then metS xs i else metS xs i + 1
theorem metS_succ (xs : List Str) (i : Nat) : metS xs (i + 1) = if (xs.take i).any (· == xs.getD i Str.empty) then metS xs i else metS xs i + 1 := rfl
theorem metS_le (xs : List Str) : ∀ i, metS xs i ≤ i
  | 0 => Nat.le_refl _
  | i + 1 => by
    rw [metS_succ]
    have := metS_le xs i
    split <;> omega
theorem metS_all (xs : List Str) : ∀ i, i ≤ xs.length → (metS xs i = i ↔ (xs.take i).Nodup)
  | 0, _ => by simp [metS]
  | i + 1, hi => by
    have ih := metS_all xs i (by omega)
    have hl := metS_le xs i
    have hx : i < xs.length := by omega
    rw [metS_succ, List.take_add_one, List.getElem?_eq_getElem hx, List.getD_eq_getElem?_getD, List.getElem?_eq_getElem hx]
    simp only [Option.getD_some, Option.toList_some]
    by_cases h : (xs.take i).any (· == xs[i]) = true
    · rw [if_pos h]
      constructor
      · intro e; omega
      · intro n
        obtain ⟨y, hy, e⟩ := List.any_eq_true.mp h
        rw [beq_iff_eq] at e
        subst e
        exact absurd rfl ((List.nodup_append.mp n).2.2 _ hy _ (List.mem_singleton.mpr rfl))
    · rw [if_neg h]
      constructor
      · intro e
        refine List.nodup_append.mpr ⟨ih.mp (by omega), by simp, fun a ha b hb e => ?_⟩
        rw [List.mem_singleton] at hb
        subst hb; subst e
        exact h (List.any_eq_true.mpr ⟨_, ha, by simp⟩)
      · intro n
        have := ih.mpr (List.nodup_append.mp n).1
        omega
theorem metS_nodup (xs : List Str) : metS xs xs.length = xs.length ↔ xs.Nodup := by
  have := metS_all xs xs.length (Nat.le_refl _)
  rwa [List.take_length] at this
section
variable {prog : Program} {w : World} {A : Around} {R : Result → Shared → Prop} {I : Addr} {fp wr : List Addr} {G : Array GenState → Array GenState → Prop} {n : Nat} {P : Nat → Value → Prop} {St : Nat → Shared → Prop}
theorem loopStrN (W : WalksS prog w A.in1 I fp wr G n P St) (S : Addr) (hSf : S ∉ fp) (xs : List Str) (hsz : xs.length = n) (hn1 : n + 1 < scanBound)
    (hval : ∀ i v, P i v → ∃ t, v = .str (xs.getD i Str.empty) t) :
    ∀ (k i : Nat) (s : Shared), n - i = k → i ≤ n → St i s →
      s.heap.SetOf (PySem.strKind prog w) S (fun k' => (xs.take i).any (· == k')) (metS xs i) →
      (∀ s', Moved (S :: wr) G s s' → s'.heap.SetOf (PySem.strKind prog w) S (fun k' => (xs.take n).any (· == k')) (metS xs n) → R (.ok (.ret .none)) s') →
      codeAny (model prog w) A (.builtin "set.update.loop" ⟨[.ref S, .ref I], []⟩) R s := by
  have hSw : S ∉ wr := fun h => hSf (W.sub _ h)
  have hsub : ∀ b ∈ wr, b ∈ S :: wr := fun b hb => List.mem_cons_of_mem _ hb
  intro k
  induction k with
  | zero =>
    intro i s hk hi hst hS hR
    have hin : i = n := by omega
    subst hin
    refine codeAny_builtin PyProof.Rows.F.entry_set_update_loop ?_
    rw [Around.under_plainId PyProof.Rows.F.plain_set_update_loop _]
    show wpAny _ A.in1 (pyNext (.ref I) >>= _) _ _ s
    refine wpAny_bind (W.done s _ _ hst fun s' hm => ?_)
    show wpAny _ A.in1 (ret Value.none) _ _ s'
    exact wpAny_pure (hR s' (hm.mono hsub) (by
      obtain ⟨o, es, ep, t, ho, rest⟩ := hS
      exact ⟨o, es, ep, t, hm.heap S _ hSw ho, rest⟩))
  | succ k ih =>
    intro i s hk hi hst hS hR
    have hlt : i < n := by omega
    refine codeAny_builtin PyProof.Rows.F.entry_set_update_loop ?_
    rw [Around.under_plainId PyProof.Rows.F.plain_set_update_loop _]
    show wpAny _ A.in1 (pyNext (.ref I) >>= _) _ _ s
    refine wpAny_bind (W.item i s _ _ hlt hst fun v s' hP hst' hm => ?_)
    obtain ⟨t, rfl⟩ := hval i v hP
    have hS' : s'.heap.SetOf (PySem.strKind prog w) S (fun k' => (xs.take i).any (· == k')) (metS xs i) := by
      obtain ⟨o, es, ep, tb, ho, rest⟩ := hS
      exact ⟨o, es, ep, tb, hm.heap S _ hSw ho, rest⟩
    show wpAny _ A.in1 (holding [Value.str (xs.getD i Str.empty) t] (setAdd S (.str (xs.getD i Str.empty) t)) >>= _) _ _ s'
    refine wpAny_bind (wpAny_holding ?_)
    unfold setAdd
    refine wpAny_holding ?_
    refine wpAny_bind ((PySem.strKind prog w).pyHash (k := xs.getD i Str.empty) (strKind_is _ _ _ _) ?_)
    refine wpAny_setAddHashed_of (knd := PySem.strKind prog w) (s := { s' with toks := s'.toks + 1 }) (strKind_is _ _ _ _) rfl hS' (by have := metS_le xs i; unfold scanBound at *; omega) fun h' hsb hS2 => ?_
    have hSi : h'.SetOf (PySem.strKind prog w) S (fun k' => (xs.take (i + 1)).any (· == k')) (metS xs (i + 1)) := by
      have hx : i < xs.length := by omega
      refine SetOf_congr hS2 (fun k' => ?_) (by rw [metS_succ])
      rw [List.take_add_one, List.getElem?_eq_getElem hx, List.any_append, List.getD_eq_getElem?_getD, List.getElem?_eq_getElem hx]
      show ((xs.take i).any (· == k') || decide (k' = xs[i])) = ((xs.take i).any (· == k') || [xs[i]].any (· == k'))
      congr 1
      simp only [List.any_cons, List.any_nil, Bool.or_false]
      by_cases e : k' = xs[i]
      · simp [e]
      · have hb : (xs[i] == k') = false := by simpa [beq_iff_eq] using (fun h' : xs[i] = k' => e h'.symm)
        simp [hb, e]
    refine wpAny_pure ⟨plainId_quiet PyProof.Rows.F.plain_set_update_loop _, ih (i + 1) _ (by omega) hlt (W.frame _ s' _ _ hst' (Nat.le_succ _) fun b hb o e => ?_) hSi fun s'' hm'' hS'' => ?_⟩
    · rw [hsb.2 b (fun h : b = S => hSf (by rw [← h]; exact hb))]; exact e
    · refine hR s'' (Moved.trans W.gtrans ((hm.mono hsub).then_heap (Nat.le_succ _) fun b o hb e => ?_) hm'') hS''
      rw [hsb.2 b (fun h : b = S => hb (by rw [h]; exact List.mem_cons_self))]; exact e
end
section
variable {prog : Program} {w : World} {A : Around} {E : Value → Shared → Prop} {s : Shared}
set_option maxHeartbeats 3200000 in
theorem call_set_listN {l : Addr} {items : Array Value} {xs : List Str} {Q : Value → Shared → Prop}
    (hh : A.handled = none) (hl : s.heap.IsList l items) (hi : PyProof.Rows.StrsAre items.toList xs) (hn1 : xs.length + 1 < scanBound)
    (h : ∀ (h' : Heap) (tk : Nat), h'.SetOf (PySem.strKind prog w) s.heap.objs.size (fun k' => (xs.take items.size).any (· == k')) (metS xs items.size) →
      (∀ b o, b < s.heap.objs.size → s.heap.get? b = some o → h'.get? b = some o) → Q (.ref s.heap.objs.size) { s with heap := h', toks := tk }) :
    wpAny (model prog w) A (call (.type "set") [.ref l]) Q E s := by
  obtain ⟨c, tl, hmro⟩ := PySem.F.called_set.mro
  have hmade := PySem.F.called_set.made
  have hsub := PySem.F.called_set.sub
  refine wpAny_call (codeAny_of_tree ?_)
  show wpAny _ _ (callAny (.type "set") _) _ _ _
  refine wpAny_pure ⟨Code.quiet_builtin _ (by decide +kernel), codeAny_builtin PySem.F.entry_type_call ?_⟩
  rw [Around.under_plain (weight_type_call_type "set" [.ref l] []) rfl]
  have h1 := PySem.F.called_set.notType
  have h2 := PySem.F.called_set.canCreate
  have hct := PySem.F.typeCall_set_1 (.ref l)
  repeat (any_goals (first | assumption | wp_step))

  refine codeAny_mono (code_set_new_1 (.ref l) (E := E) (Q₁ := fun obj s₁ => ∃ led : Bool, obj = .ref s.heap.objs.size ∧ s₁ = { s with heap := s.heap.push { cls := .type "set", dict := none, data := .set #[] 0 (.fresh 0 0 led) } }) fun led => ⟨led, rfl, rfl⟩) fun r s₁ hr => ?_
  cases r with
  | error e => exact hr
  | ok fl =>
    cases fl with
    | ret obj =>
      obtain ⟨led, rfl, rfl⟩ := hr
      have hS : (s.heap.push { cls := .type "set", dict := none, data := .set #[] 0 (.fresh 0 0 led) }).get? s.heap.objs.size = some { cls := .type "set", dict := none, data := .set #[] 0 (.fresh 0 0 led) } := Heap.get?_push_size _ rfl
      have hT : Shared.TypeIs { s with heap := s.heap.push { cls := .type "set", dict := none, data := .set #[] 0 (.fresh 0 0 led) } } (.ref s.heap.objs.size) "set" := ⟨_, hS, rfl⟩
      have hli := PySem.F.called_set.init.lookup
      have hbi := PySem.F.called_set.init.bind (.ref s.heap.objs.size)
      repeat (any_goals (first | assumption | wp_step))

      refine codeAny_mono (codeAny_call_builtin (R := wants (fun r s₂ => r = .none ∧ ∃ h' tk, s₂ = { s with heap := h', toks := tk } ∧
          h'.SetOf (PySem.strKind prog w) s.heap.objs.size (fun k' => (xs.take items.size).any (· == k')) (metS xs items.size) ∧
          (∀ b o, b < s.heap.objs.size → s.heap.get? b = some o → h'.get? b = some o)) E) PySem.F.called_set.init.plain PySem.F.entry_set_init (check_set_init_1 hT ?_)) fun r₂ s₂ hr₂ => ?_
      · obtain ⟨ol, hol, hcl, nl, hdl⟩ := hl
        obtain ⟨ocls, odict, odata, oslots⟩ := ol
        simp only at hcl hdl
        subst hcl; subst hdl
        have hol' : (s.heap.push { cls := .type "set", dict := none, data := .set #[] 0 (.fresh 0 0 led) }).get? l = some { cls := .type "list", dict := odict, data := .seq items nl, slots := oslots } := Heap.get?_push_of_some _ hol
        have hsls := PySem.F.sub_list_set
        have hslf := PySem.F.sub_list_frozenset
        have hne : (Value.type "list" == Value.type "dict") = false := by decide
        have hl1 : (s.heap.push { cls := .type "set", dict := none, data := .set #[] 0 (.fresh 0 0 led) }).IsList l items := ⟨_, hol', rfl, nl, rfl⟩
        unfold Builtin.«set.__init__» noKeywords Builtin.Frozenset.updateFrom
        generalize hPI : pyIter = PI
        wp_walk
        subst hPI

        refine wpAny_pyIter_list hl1 ?_
        refine wpAny_bind (wpAny_runValue ?_)
        have hlS : l < s.heap.objs.size := Heap.lt_size hol
        have hh3 : A.in1.in1.in1.handled = none := by simp [hh]
        have hneI : l ≠ (s.heap.push { cls := .type "set", dict := none, data := .set #[] 0 (.fresh 0 0 led) }).objs.size := by
          rw [Heap.size_push]; exact Nat.ne_of_lt (Nat.lt_succ_of_lt hlS)
        have hSf : s.heap.objs.size ∉ [(s.heap.push { cls := .type "set", dict := none, data := .set #[] 0 (.fresh 0 0 led) }).objs.size, l] := by
          rw [Heap.size_push]; simp only [List.mem_cons, List.mem_singleton, List.not_mem_nil, or_false, not_or]
          exact ⟨Nat.ne_of_lt (Nat.lt_succ_self _), Nat.ne_of_gt hlS⟩
        have hsz : xs.length = items.size := by rw [← StrsAre.len_eq hi, Array.length_toList]
        have hval : ∀ (i : Nat) (v : Value), items[i]? = some v → ∃ t, v = .str (xs.getD i Str.empty) t := fun i v hv => SS.strs_at hi i v (by rw [Array.getElem?_toList]; exact hv)
        refine loopStrN ((Walks.list hh3 _ l hneI items).toS) s.heap.objs.size
          hSf xs hsz (by rw [← hsz]; exact hn1) hval (items.size - 0) 0 _ (by omega) (Nat.zero_le _)
          ⟨⟨_, Heap.get?_push_size _ rfl, rfl, rfl⟩, (hl1.push _)⟩ ?hS0 ?hR
        case hS0 =>
          have hget : ((s.heap.push { cls := .type "set", dict := none, data := .set #[] 0 (.fresh 0 0 led) }).push { cls := .type "list_iterator", data := .fields #[.ref l, .int 0 0] }).get? s.heap.objs.size
              = some { cls := .type "set", dict := none, data := .set #[] 0 (.fresh 0 0 led) } := Heap.get?_push_of_some _ hS
          exact PyProof.Rows.SetOf_congr ((PyProof.Rows.setObjOf_fresh (knd := PySem.strKind prog w) led).setOf hget (by unfold scanBound; omega)) (fun _ => rfl) rfl
        case hR =>
          intro s' hm hS'
          obtain ⟨h', g', d', tk', os'⟩ := s'
          have eg : g' = s.gens := hm.gens
          have ed : d' = s.drawn := hm.drawn
          have eo : os' = s.os := hm.os
          subst eg; subst ed; subst eo
          show wpAny _ _ _ _ _ _
          refine wpAny_pure ?_
          show wpAny _ _ (ret Value.none) _ _ _
          refine wpAny_pure ⟨rfl, h', tk', rfl, hS', fun b o hb e => ?_⟩
          have hb1 : b ≠ s.heap.objs.size := Nat.ne_of_lt hb
          have hb2 : b ≠ (s.heap.push { cls := .type "set", dict := none, data := .set #[] 0 (.fresh 0 0 led) }).objs.size := by
            rw [Heap.size_push]; exact Nat.ne_of_lt (Nat.lt_succ_of_lt hb)
          exact hm.heap b o (by simp only [List.mem_cons, List.mem_singleton, List.not_mem_nil, or_false, not_or]; exact ⟨hb1, hb2⟩) (Heap.get?_push_of_some _ (Heap.get?_push_of_some _ e))

      · cases r₂ with
        | error e => exact hr₂
        | ok fl₂ =>
          cases fl₂ with
          | ret r =>
            obtain ⟨rfl, h', tk, rfl, hS', hk'⟩ := hr₂
            repeat (any_goals (first | assumption | wp_step))
            exact h _ _ hS' hk'
          | _ => exact hr₂.elim
    | _ => exact hr.elim
end
end DL
namespace DL
open PySem L2 PySem.Spec PyProof.Rows
def tLenSetN (K : PySem.W.Frag) (ta : TE) : TE := fun σ H Q => ta σ H fun x H1 => ∃ l, ∃ xs : List Str, x = .ref l ∧ SqL K H1 l (xs.map V.str) ∧ xs.length ≤ 4000 ∧ Q (.int (metS xs xs.length : Nat)) H1
theorem pe_lenSetN {X : Cx} {a : Expr} {ta : TE} {p p2 q pos : Pos} (hc : X.calm = true) (hg : Gl X "len") (hm : X.mg "len" = none) (hg2 : Gl X "set") (hm2 : X.mg "set" = none) (ha : PE X a ta)
    (na : starEach [a] X.env = (false, eval a X.env) :: starEach [] X.env := by rfl) : PE X (.Call (.Name "len" p) [.Call (.Name "set" p2) [a] [] q] [] pos) (tLenSetN X.K ta) := by
  refine ⟨fun pins s σ H Q I h => ?_⟩
  refine PyProof.Rows.Call_ (ld_blt I hg hm boot_len ?_)
  refine PyProof.Rows.callWith_builtin1 (PyProof.Rows.args_cons ?_ rfl) rfl rfl
  refine PyProof.Rows.Call_ (ld_blt I hg2 hm2 boot_set ?_)
  refine PyProof.Rows.callWith_type1 (PyProof.Rows.args_cons (thn (ha.run pins s σ H _ I h) fun v s1 ⟨x, H1, I1, r1, q1⟩ => PyProof.Rows.args_nil ?_) na) na rfl
  obtain ⟨l, xs, rfl, hq, h1, q1⟩ := q1
  cases r1
  obtain ⟨its, r, pl, hz⟩ := I1.list hq
  have hl : its.toArray.size = xs.length := by rw [List.size_toArray, ← r.length, List.length_map]
  refine call_set_listN (I1.ok.hd hc) pl.isList (by simpa using strsAre_of r) (by unfold PySem.scanBound; omega) fun h' tk hS hk => ?_
  refine PyProof.Rows.args_nil ?_
  rw [hl] at hS
  obtain ⟨o, es, ep, t, ho, hex, hd, _, _, _, hf, hn⟩ := hS
  have I2 : Inv X pins σ H1 { s1 with heap := h', toks := tk } := I1.kept fun b o e => hk b o (Heap.lt_size e) e
  have hle := metS_le xs xs.length
  exact call_len_set ho hex hd hf (by rw [hn]; omega) ⟨.int (metS xs xs.length : Nat), H1, I2.tok _, ⟨_, by rw [hn]⟩, q1⟩
def qLenSet (qe : DTE) : DTE := fun DW p M Q => qe DW p M fun x M1 => match res M1 x with
  | .lst es => match strsD es with
    | some xs => xs.length ≤ 4000 ∧ Q (.int (metS xs xs.length : Nat)) M1
    | none => False
  | _ => False
theorem q_lenSet {X : Cx} {W : WX} {a : Expr} {ta : TE} {qe : DTE} {p p2 q pos : Pos} (hc : X.calm = true) (hg : Gl X "len") (hm : X.mg "len" = none) (hg2 : Gl X "set") (hm2 : X.mg "set" = none) (ha : QE X W a ta qe)
    (na : starEach [a] X.env = (false, eval a X.env) :: starEach [] X.env := by rfl) : QE X W (.Call (.Name "len" p) [.Call (.Name "set" p2) [a] [] q] [] pos) (tLenSetN X.K ta) (qLenSet qe) :=
  ⟨pe_lenSetN hc hg hm hg2 hm2 ha.pe na, fun DW G H p M s Q Q' hw S h k => ha.rf DW G H p M s _ _ hw S h fun G1 H1 M1 d v e1 S1 r1 h1 => by
    split at h1
    · next es e2 =>
      obtain ⟨a, us, rfl, g1, g2, g3⟩ := as_lst S1 r1 e2
      split at h1
      · next xs ex =>
        obtain ⟨hl, h1⟩ := h1
        have ev := strsD_of g2 ex
        subst ev
        exact ⟨a, xs, rfl, .inl (.inl g1), hl, k G1 H1 M1 (.int _) _ e1 S1 rfl h1⟩
      · exact h1.elim
    · exact h1.elim⟩
end DL
namespace DL
open PySem L2
end DL
namespace DL
open PySem L2 Tx20 Tx21
/-- plain data: texts and lengths of at most n -/
inductive Pl (n : Nat) : D → Prop
  | non : Pl n .non
  | bl (b : Bool) : Pl n (.bl b)
  | int (i : Int) : Pl n (.int i)
  | str {x : Str} (h : Tx_ n x) : Pl n (.str x)
  | tup {ds : List D} (hl : ds.length ≤ n) (h : ∀ d ∈ ds, Pl n d) : Pl n (.tup ds)
  | lst {ds : List D} (hl : ds.length ≤ n) (h : ∀ d ∈ ds, Pl n d) : Pl n (.lst ds)
theorem Pl.mono {n m : Nat} (hn : n ≤ m) {d : D} (h : Pl n d) : Pl m d := by
  induction h with
  | non => exact .non
  | bl b => exact .bl b
  | int i => exact .int i
  | str h => exact .str (h.mono hn)
  | tup hl _ ih => exact .tup (Nat.le_trans hl hn) ih
  | lst hl _ ih => exact .lst (Nat.le_trans hl hn) ih
theorem Pl.data {n : Nat} {d : D} (h : Pl n d) : isData d = true := by
  induction h with
  | non => rfl
  | bl b => rfl
  | int i => rfl
  | str h => rfl
  | tup _ _ ih => rw [isData, isDataL_all, List.all_eq_true]; exact ih
  | lst _ _ ih => rw [isData, isDataL_all, List.all_eq_true]; exact ih
theorem Pl.tupI {n : Nat} {ds : List D} (h : Pl n (.tup ds)) : ds.length ≤ n ∧ ∀ d ∈ ds, Pl n d := by cases h with | tup a b => exact ⟨a, b⟩
theorem Pl.strI {n : Nat} {x : Str} (h : Pl n (.str x)) : Tx_ n x := by cases h with | str a => exact a
def intB : D → Bool
  | .int _ => true
  | .bl _ => true
  | _ => false
def strB : D → Bool
  | .str _ => true
  | _ => false
def tupB : D → Bool
  | .tup _ => true
  | _ => false
section
variable {n : Nat} {x : D} {M : Mst} {Q : DK}
theorem isi_int (h : Pl n x) : dIsi [x, .ty "int"] M Q = Q (.bl (intB x)) M := by cases h <;> simp [intB]
theorem isi_str (h : Pl n x) : dIsi [x, .ty "str"] M Q = Q (.bl (strB x)) M := by cases h <;> simp [strB]
theorem isi_tuple (h : Pl n x) : dIsi [x, .ty "tuple"] M Q = Q (.bl (tupB x)) M := by cases h <;> simp [tupB]
end
section
variable {d0 d1 d2 d3 d4 d5 d6 d7 d8 d9 d10 d11 d12 d13 d14 d15 d16 d17 d18 d19 d20 d21 d22 d23 d24 : D}
theorem z_l0 : (([] : List D).length ≤ 100000) = True := by simp
theorem z_l1 : (([d0] : List D).length ≤ 100000) = True := by simp
theorem z_l2 : (([d0, d1] : List D).length ≤ 100000) = True := by simp
theorem z_l3 : (([d0, d1, d2] : List D).length ≤ 100000) = True := by simp
theorem z_l4 : (([d0, d1, d2, d3] : List D).length ≤ 100000) = True := by simp
theorem z_l5 : (([d0, d1, d2, d3, d4] : List D).length ≤ 100000) = True := by simp
theorem z_l6 : (([d0, d1, d2, d3, d4, d5] : List D).length ≤ 100000) = True := by simp
theorem z_l7 : (([d0, d1, d2, d3, d4, d5, d6] : List D).length ≤ 100000) = True := by simp
theorem z_l8 : (([d0, d1, d2, d3, d4, d5, d6, d7] : List D).length ≤ 100000) = True := by simp
theorem z_l9 : (([d0, d1, d2, d3, d4, d5, d6, d7, d8] : List D).length ≤ 100000) = True := by simp
theorem z_l19 : (([d0, d1, d2, d3, d4, d5, d6, d7, d8, d9, d10, d11, d12, d13, d14, d15, d16, d17, d18] : List D).length ≤ 100000) = True := by simp
theorem z_l24 : (([d0, d1, d2, d3, d4, d5, d6, d7, d8, d9, d10, d11, d12, d13, d14, d15, d16, d17, d18, d19, d20, d21, d22, d23] : List D).length ≤ 100000) = True := by simp
theorem z_l25 : (([d0, d1, d2, d3, d4, d5, d6, d7, d8, d9, d10, d11, d12, d13, d14, d15, d16, d17, d18, d19, d20, d21, d22, d23, d24] : List D).length ≤ 100000) = True := by simp
end
theorem lcN {b : Nat} {te : DTE} {p : Rho} {M : Mst} {c : Addr} {ds : List D} {Q : DK} {Sty : Mst → Prop} (hc : M c = none) (hS : ∀ acc, Sty (put M c (.lst acc))) (hl : ds.length ≤ 100000) (f : D → D)
    (step : ∀ d ∈ ds, ∀ (M' : Mst) (R : DK), Sub M M' → R (f d) M' → te DW0 ((wipeD p [b]).set b (some d)) M' R) (fin : Q (.lst (ds.map f)) M) : compL false Sty (gNameD b) qYes te [b] c p Q ds (put M c (.lst [])) := by
  refine compL_map hc (fun d => some (f d)) hS hl (fun d hd acc R hR => ?_) ?_
  · simp only [gNameD, qYes, if_true]
    exact step d hd _ _ ((Sub.refl M).put hc) hR
  · simp only [Bool.false_eq_true, if_false]
    rw [List.filterMap_eq_map']; exact fin
/-- by a relation: draws -/
theorem lcR {b : Nat} {te : DTE} {p : Rho} {M : Mst} {c : Addr} {ds : List D} {Q : DK} {Sty : Mst → Prop} (hc : M c = none) (hS : ∀ acc, Sty (put M c (.lst acc))) (hl : ds.length ≤ 100000) (P : D → D → Prop)
    (step : ∀ d ∈ ds, ∀ (M' : Mst) (R : DK), Sub M M' → (∀ y, P d y → R y M') → te DW0 ((wipeD p [b]).set b (some d)) M' R) (fin : ∀ ys, All2 P ds ys → Q (.lst ys) M) : compL false Sty (gNameD b) qYes te [b] c p Q ds (put M c (.lst [])) := by
  refine compL_rel hc (fun d o => ∃ y, o = some y ∧ P d y) hS ds [] (by simpa using hl) (fun d hd acc R hR => ?_) fun os hos => ?_
  · simp only [gNameD, qYes, if_true]
    exact step d hd _ _ ((Sub.refl M).put hc) fun y hy => hR _ ⟨y, rfl, hy⟩
  · simp only [Bool.false_eq_true, if_false, List.nil_append]
    have : ∃ ys, os.filterMap id = ys ∧ All2 P ds ys := by
      clear fin step hl hS
      induction hos with
      | nil => exact ⟨[], rfl, .nil⟩
      | cons h _ ih =>
        obtain ⟨y, rfl, hy⟩ := h
        obtain ⟨ys, e, a⟩ := ih
        exact ⟨y :: ys, by simp [e], .cons hy a⟩
    obtain ⟨ys, e, a⟩ := this
    rw [e]; exact fin ys a
theorem All2.mem {α β : Type} {P : α → β → Prop} {as : List α} {bs : List β} (h : All2 P as bs) : ∀ b ∈ bs, ∃ a ∈ as, P a b := by
  induction h with
  | nil => intro b hb; cases hb
  | cons h _ ih =>
    intro b hb
    rcases List.mem_cons.mp hb with rfl | hb
    · exact ⟨_, List.mem_cons_self .., h⟩
    · obtain ⟨a, ha, hp⟩ := ih b hb; exact ⟨a, List.mem_cons_of_mem _ ha, hp⟩
abbrev LETT : Str := lit "abcdefghijklmnopqrstuvwxyz"
def lettB (z : Str) : Bool := z.cps.toList.all fun c => decide (97 ≤ c) && decide (c ≤ 122)
theorem in_lett : ∀ c, c < 127 → inS (one c) LETT = (decide (97 ≤ c) && decide (c ≤ 122)) := by decide +kernel
theorem lett_all {z : Str} (h : Pr z) : ((z.cps.toList.map fun c => inS (one c) LETT).all id) = lettB z := by
  unfold lettB
  rw [List.all_map]
  have : ∀ l : List Nat, (∀ c ∈ l, 32 ≤ c ∧ c ≤ 126) → l.all (id ∘ fun c => inS (one c) LETT) = l.all fun c => decide (97 ≤ c) && decide (c ≤ 122) := fun l => by
    induction l with
    | nil => intro _; rfl
    | cons c r ih =>
      intro h
      rw [List.all_cons, List.all_cons, ih fun d hd => h d (List.mem_cons_of_mem _ hd)]
      simp only [Function.comp, id]
      rw [in_lett c (by have := h c (List.mem_cons_self ..); omega)]
  exact this _ h
def inLett : D → D
  | .str y => .bl (inS y LETT)
  | d => d
def nameS (z : Str) : Bool := (decide (1 ≤ z.length) && decide (z.length ≤ 8)) && lettB z
def nameD : D → Bool
  | .str z => nameS z
  | _ => false
theorem chain_len {lo hi : Nat} {z : Nat} {M : Mst} {Q : DK} : dCmpI (fun i j => decide (i ≤ j)) (.int (lo : Int)) (.int (z : Int)) M (fun z_1 M3 => match z_1 with
    | .bl k => if k = true then dCmpI (fun i j => decide (i ≤ j)) (.int (z : Int)) (.int (hi : Int)) M3 Q else Q (.bl false) M3
    | _ => False) = Q (.bl (decide (lo ≤ z) && decide (z ≤ hi))) M := by
  have e1 : decide ((lo : Int) ≤ (z : Int)) = decide (lo ≤ z) := decide_eq_decide.mpr (by omega)
  have e2 : decide ((z : Int) ≤ (hi : Int)) = decide (z ≤ hi) := decide_eq_decide.mpr (by omega)
  simp only [dCmpI_i, e1, e2]
  cases decide (lo ≤ z) <;> simp
theorem chain_int {lo hi z : Int} {M : Mst} {Q : DK} : dCmpI (fun i j => decide (i ≤ j)) (.int lo) (.int z) M (fun z_1 M3 => match z_1 with
    | .bl k => if k = true then dCmpI (fun i j => decide (i ≤ j)) (.int z) (.int hi) M3 Q else Q (.bl false) M3
    | _ => False) = Q (.bl (decide (lo ≤ z) && decide (z ≤ hi))) M := by
  simp only [dCmpI_i]
  cases decide (lo ≤ z) <;> simp
def wholeD (lo hi : Int) : D → Bool
  | .int i => decide (lo ≤ i) && decide (i ≤ hi)
  | _ => false
def oneD (zs : List Str) : D → Bool
  | .str z => decide (z ∈ zs)
  | _ => false
def longD (k : Nat) : D → Bool
  | .tup ds => decide (ds.length = k)
  | _ => false
def qIsWhole : DTS := (qRet (qAndV (qCB dIsi (qCons (qVar 0) (qCons (qC (.ty "int")) qNil))) (qAndV (qNotV (qCB dIsi (qCons (qVar 0) (qCons (qC (.ty "bool")) qNil)))) (qChain (dCmpI fun i j => decide (i ≤ j)) (dCmpI fun i j => decide (i ≤ j)) (qVar 1) (qVar 0) (qVar 2)))))
def spIsWhole : DSp := fun ds M Q _ => ∃ (n : Nat) (x : D) (lo hi : Int), ds = [x, .int lo, .int hi] ∧ Pl n x ∧ Q (.bl (wholeD lo hi x)) M
theorem whole_ok (ds : List D) (M : Mst) (Q : DK) (Ed : DX → Mst → Prop) (h : upSp spIsWhole ds M Q Ed) : qIsWhole (fun x _ M => Ed x M) (retE Q) (startD ["thing", "low", "high"] ds) M := by
  obtain ⟨Q0, E0, ⟨n, x, lo, hi, rfl, hx, k0⟩, kq, _⟩ := h
  have k : Q (.bl (wholeD lo hi x)) M := kq _ _ _ (Sub.refl _) k0
  show qIsWhole _ _ [some x, some (.int lo), some (.int hi)] M
  simp only [qIsWhole, qAndV, qNotV, qChain, qSeq, qAsg, qTup, qCons, qNil, qOp, qUn, qC, qCall, qVar, qLst, newL_f, qIfS, qTB, qNext, qRet, qDrop, qFor, qCB, qAug, qSl, qPart, qNoPart, gNameD, gSub_eq, dInt_i, dInt0_i, dAdd_i, dCmpI_i, List.set_cons_zero, List.set_cons_succ, List.getElem?_cons_zero, List.getElem?_cons_succ, List.append_nil]
  rw [isi_int hx]
  cases x with
  | int i =>
    simp only [intB, if_true, z_isi_int_bool, Bool.not_false]
    exact chain_int.mpr k
  | bl b => simp only [intB, if_true, z_isi_bl_bool, Bool.not_true, Bool.false_eq_true, if_false]; exact k
  | _ => simp only [intB, Bool.false_eq_true, if_false]; exact k
def qIsName : DTS := (qSeq (qIfS (qOr (qNot (qTB (qCB dIsi (qCons (qVar 0) (qCons (qC (.ty "str")) qNil))))) (qNot (qTB (qChain (dCmpI fun i j => decide (i ≤ j)) (dCmpI fun i j => decide (i ≤ j)) (qC (.int 1)) (qCB dLen (qCons (qVar 0) qNil)) (qC (.int 8))))))
  (qRet (qC (.bl false)))
  qNext)
  (qRet (qCB dAll (qCons (qLc false (qiAny (qVar 0)) (gNameD 1) qYes (qOp (dIn false) (qVar 1) (qC (.str (PySem.Str.ofString "abcdefghijklmnopqrstuvwxyz")))) [1]) qNil))))
def spIsName : DSp := fun ds M Q _ => ∃ (n : Nat) (x : D), ds = [x] ∧ n ≤ 100000 ∧ Pl n x ∧ Q (.bl (nameD x)) M
theorem name_ok (ds : List D) (M : Mst) (Q : DK) (Ed : DX → Mst → Prop) (h : upSp spIsName ds M Q Ed) : qIsName (fun x _ M => Ed x M) (retE Q) (startD ["thing", "sign"] ds) M := by
  obtain ⟨Q0, E0, ⟨n, x, rfl, hn, hx, k0⟩, kq, _⟩ := h
  have k : Q (.bl (nameD x)) M := kq _ _ _ (Sub.refl _) k0
  show qIsName _ _ [some x, none] M
  simp only [qIsName, qOr, qNot, qChain, qSeq, qAsg, qTup, qCons, qNil, qOp, qUn, qC, qCall, qVar, qLst, newL_f, qIfS, qTB, qNext, qRet, qDrop, qFor, qCB, qAug, qSl, qPart, qNoPart, gNameD, gSub_eq, dInt_i, dInt0_i, dAdd_i, dCmpI_i, List.set_cons_zero, List.set_cons_succ, List.getElem?_cons_zero, List.getElem?_cons_succ, List.append_nil]
  rw [isi_str hx]
  cases x with
  | str z =>
    have T := hx.strI
    simp only [strB, Bool.not_true, Bool.false_eq_true, if_false, z_len_str]
    refine (chain_len (lo := 1) (hi := 8)).mpr ?_
    have k : Q (.bl ((decide (1 ≤ z.length) && decide (z.length ≤ 8)) && lettB z)) M := k
    cases hc : decide (1 ≤ z.length) && decide (z.length ≤ 8) with
    | false => rw [hc] at k; simp only [Bool.not_false, if_true]; exact k
    | true =>
      rw [hc] at k
      simp only [Bool.not_true, Bool.false_eq_true, if_false]
      simp only [qLc, qiAny, qVar, List.getElem?_cons_zero]
      intro c hc
      refine lcN hc (fun _ => trivial) (by unfold signs; rw [List.length_map, Array.length_toList]; exact Nat.le_trans T.len hn) inLett (fun d hd M' R S hR => ?_) ?_
      · unfold signs at hd
        obtain ⟨c, _, rfl⟩ := List.mem_map.mp hd
        show dIn false (.str (one c)) (.str LETT) M' R
        rw [z_inS, Bool.false_xor]
        exact hR
      · have e : (signs z).map inLett = (z.cps.toList.map fun c => inS (one c) LETT).map D.bl := by
          unfold signs; rw [List.map_map, List.map_map]; rfl
        rw [e, all_bls, lett_all T.pr]; exact k
  | _ => simp only [strB, Bool.not_false, if_true]; exact k
def qIsOne : DTS := (qRet (qAndV (qCB dIsi (qCons (qVar 0) (qCons (qC (.ty "str")) qNil))) (qOp (dIn false) (qVar 0) (qVar 1))))
/-- what texts are: a list, a tuple, the keys of a dict -/
def TextsD (M : Mst) (zs : List Str) (t : D) : Prop := ∀ (z : Str) (Q : DK), dIn false (.str z) t M Q = Q (.bl (decide (z ∈ zs))) M
theorem textsD_t {M : Mst} {zs : List Str} : TextsD M zs (.tup (zs.map .str)) := fun z Q => by rw [in_strsT, Bool.false_xor]
theorem textsD_x {M : Mst} {zs : List Str} : TextsD M zs (.xtp (zs.map .str)) := fun z Q => (in_strsT (neg := false) (M := M) (Q := Q) (z := z) (zs := zs)).trans (by rw [Bool.false_xor])
def spIsOne : DSp := fun ds M Q _ => ∃ (n : Nat) (x t : D) (zs : List Str), ds = [x, t] ∧ Pl n x ∧ TextsD M zs t ∧ Q (.bl (oneD zs x)) M
theorem one_ok (ds : List D) (M : Mst) (Q : DK) (Ed : DX → Mst → Prop) (h : upSp spIsOne ds M Q Ed) : qIsOne (fun x _ M => Ed x M) (retE Q) (startD ["thing", "texts"] ds) M := by
  obtain ⟨Q0, E0, ⟨n, x, t, zs, rfl, hx, ht, k0⟩, kq, _⟩ := h
  have k : Q (.bl (oneD zs x)) M := kq _ _ _ (Sub.refl _) k0
  show qIsOne _ _ [some x, some t] M
  simp only [qIsOne, qAndV, qSeq, qAsg, qTup, qCons, qNil, qOp, qUn, qC, qCall, qVar, qLst, newL_f, qIfS, qTB, qNext, qRet, qDrop, qFor, qCB, qAug, qSl, qPart, qNoPart, gNameD, gSub_eq, dInt_i, dInt0_i, dAdd_i, dCmpI_i, List.set_cons_zero, List.set_cons_succ, List.getElem?_cons_zero, List.getElem?_cons_succ, List.append_nil]
  rw [isi_str hx]
  cases x with
  | str z =>
    simp only [strB, if_true]
    rw [ht]; exact k
  | _ => simp only [strB, Bool.false_eq_true, if_false]; exact k
def qIsTuple : DTS := (qRet (qAndV (qCB dIsi (qCons (qVar 0) (qCons (qC (.ty "tuple")) qNil))) (qOp (dEq false) (qCB dLen (qCons (qVar 0) qNil)) (qVar 1))))
def spIsTuple : DSp := fun ds M Q _ => ∃ (n : Nat) (x : D) (k : Nat), ds = [x, .int (k : Int)] ∧ Pl n x ∧ Q (.bl (longD k x)) M
theorem tuple_ok (ds : List D) (M : Mst) (Q : DK) (Ed : DX → Mst → Prop) (h : upSp spIsTuple ds M Q Ed) : qIsTuple (fun x _ M => Ed x M) (retE Q) (startD ["thing", "many"] ds) M := by
  obtain ⟨Q0, E0, ⟨n, x, m, rfl, hx, k0⟩, kq, _⟩ := h
  have k : Q (.bl (longD m x)) M := kq _ _ _ (Sub.refl _) k0
  show qIsTuple _ _ [some x, some (.int m)] M
  simp only [qIsTuple, qAndV, qSeq, qAsg, qTup, qCons, qNil, qOp, qUn, qC, qCall, qVar, qLst, newL_f, qIfS, qTB, qNext, qRet, qDrop, qFor, qCB, qAug, qSl, qPart, qNoPart, gNameD, gSub_eq, dInt_i, dInt0_i, dAdd_i, dCmpI_i, List.set_cons_zero, List.set_cons_succ, List.getElem?_cons_zero, List.getElem?_cons_succ, List.append_nil]
  rw [isi_tuple hx]
  cases x with
  | tup ds =>
    simp only [tupB, if_true, z_len_tup]
    rw [eq_i, Bool.false_xor]; exact k
  | _ => simp only [tupB, Bool.false_eq_true, if_false]; exact k
/-- a tuple's item at a known place -/
theorem ix_tn {ds : List D} {i : Nat} {d : D} {M : Mst} {Q : DK} (h : ds[i]? = some d) : dIx (.tup ds) (.int (i : Int)) M Q = Q d M := ix_t (by rw [atI_n]; exact h)
theorem ix_ln {ds : List D} {i : Nat} {d : D} {M : Mst} {Q : DK} (h : ds[i]? = some d) : dIx (.lst ds) (.int (i : Int)) M Q = Q d M := ix_l (by rw [atI_n]; exact h)
@[simp] theorem z_ix_t2 {a b c : D} {ds : List D} {M : Mst} {Q : DK} : dIx (.tup (a :: b :: c :: ds)) (.int 2) M Q = Q c M := ix_tn (i := 2) rfl
@[simp] theorem z_ix_t3 {a b c e : D} {ds : List D} {M : Mst} {Q : DK} : dIx (.tup (a :: b :: c :: e :: ds)) (.int 3) M Q = Q e M := ix_tn (i := 3) rfl
@[simp] theorem z_ix_l2 {a b c : D} {ds : List D} {M : Mst} {Q : DK} : dIx (.lst (a :: b :: c :: ds)) (.int 2) M Q = Q c M := ix_ln (i := 2) rfl
@[simp] theorem z_ix_l3 {a b c e : D} {ds : List D} {M : Mst} {Q : DK} : dIx (.lst (a :: b :: c :: e :: ds)) (.int 3) M Q = Q e M := ix_ln (i := 3) rfl
theorem longD_iff {k : Nat} {x : D} : longD k x = true ↔ ∃ ds, x = .tup ds ∧ ds.length = k := by cases x <;> simp [longD]
end DL
namespace DL
open PySem L2 Tx20 Tx21
/-- a tuple, its object known or not -/
def seqD : D → Option (List D)
  | .tup ds => some ds
  | .xtp ds => some ds
  | _ => none
/-- what is handed in: plain data, or a tuple of them whose object is known -/
inductive Th (n : Nat) : D → Prop
  | pl {x : D} (h : Pl n x) : Th n x
  | xt {ds : List D} (hl : ds.length ≤ n) (h : ∀ d ∈ ds, Pl n d) : Th n (.xtp ds)
section
variable {n : Nat} {x : D} {M : Mst} {Q : DK}
theorem Th.seq (h : Th n x) {ds : List D} (e : seqD x = some ds) : ds.length ≤ n ∧ ∀ d ∈ ds, Pl n d := by
  cases h with
  | pl h =>
    cases h with
    | tup a b => cases e; exact ⟨a, b⟩
    | _ => cases e
  | xt a b => cases e; exact ⟨a, b⟩
theorem th_isi (h : Th n x) : dIsi [x, .ty "tuple"] M Q = Q (.bl (seqD x).isSome) M := by
  cases h with
  | pl h => rw [isi_tuple h]; cases h <;> rfl
  | xt a b => exact (show dIsi [.xtp _, .ty "tuple"] M Q = dIsi [.tup _, .ty "tuple"] M Q from rfl).trans z_isi_tup_tup
theorem seq_len {ds : List D} (e : seqD x = some ds) : dLen [x] M Q = Q (.int (ds.length : Int)) M := by
  cases x <;> first | (cases e; done) | (cases e; simp)
theorem seq_at {ds : List D} (e : seqD x = some ds) : seqAt M x = some (true, ds, always) := by
  cases x <;> first | (cases e; done) | (cases e; rfl)
theorem seq_cut {ds : List D} (e : seqD x = some ds) {k : Nat} (h1 : Q (.tup (ds.take k)) M) (h2 : Q (.xtp (ds.take k)) M) : dSl false x none (some (k : Int)) M Q := by
  cases x <;> first | (cases e; done) | (cases e; simp only [dSl, cut_to]; first | exact h1 | exact ⟨h1, h2⟩)
end
def optI : Option Int → D
  | none => .non
  | some i => .int i
def placeD : D → Bool
  | .tup [a, b] => nameD a && wholeD 1 4 b
  | _ => false
def nameOf : D → Str
  | .tup (.str z :: _) => z
  | _ => Str.empty
def qIsPlace (sp_is_name : DSp) (sp_is_tuple_of : DSp) (sp_is_whole : DSp) : DTS := (qRet (qAndV (qCall sp_is_tuple_of [] (qCons (qVar 0) (qCons (qC (.int 2)) qNil))) (qAndV (qCall sp_is_name [] (qCons (qOp dIx (qVar 0) (qC (.int 0))) qNil)) (qCall sp_is_whole [] (qCons (qOp dIx (qVar 0) (qC (.int 1))) (qCons (qC (.int 1)) (qCons (qC (.int 4)) qNil)))))))
def spIsPlace : DSp := fun ds M Q _ => ∃ (n : Nat) (x : D), ds = [x] ∧ n ≤ 100000 ∧ Pl n x ∧ Q (.bl (placeD x)) M
theorem place_ok (ds : List D) (M : Mst) (Q : DK) (Ed : DX → Mst → Prop) (h : upSp spIsPlace ds M Q Ed) : qIsPlace spIsName spIsTuple spIsWhole (fun x _ M => Ed x M) (retE Q) (startD ["thing"] ds) M := by
  obtain ⟨Q0, E0, ⟨n, x, rfl, hn, hx, k0⟩, kq, _⟩ := h
  have k : Q (.bl (placeD x)) M := kq _ _ _ (Sub.refl _) k0
  show qIsPlace _ _ _ _ _ [some x] M
  simp only [qIsPlace, qAndV, qSeq, qAsg, qTup, qCons, qNil, qOp, qUn, qC, qCall, qVar, qLst, newL_f, qIfS, qTB, qNext, qRet, qDrop, qFor, qCB, qAug, qSl, qPart, qNoPart, gNameD, gSub_eq, dInt_i, dInt0_i, dAdd_i, dCmpI_i, List.set_cons_zero, List.set_cons_succ, List.getElem?_cons_zero, List.getElem?_cons_succ, List.append_nil]
  refine ⟨n, x, 2, rfl, hx, ?_⟩
  cases hl : longD 2 x with
  | false =>
    have : placeD x = false := by
      unfold placeD
      split
      · cases hl
      · rfl
    rw [this] at k
    simp only [Bool.false_eq_true, if_false]; exact k
  | true =>
    obtain ⟨ds, rfl, hl⟩ := longD_iff.mp hl
    obtain ⟨a, b, rfl⟩ : ∃ a b, ds = [a, b] := by
      match ds, hl with
      | [a, b], _ => exact ⟨a, b, rfl⟩
    have hp := hx.tupI.2
    simp only [if_true, z_ix_t0, z_ix_t1]
    refine ⟨n, a, rfl, hn, hp _ (by simp), ?_⟩
    have k : Q (.bl (nameD a && wholeD 1 4 b)) M := k
    cases ha : nameD a with
    | false => rw [ha] at k; simp only [Bool.false_eq_true, if_false]; exact k
    | true => rw [ha] at k; simp only [if_true]; exact ⟨n, b, 1, 4, rfl, hp _ (by simp), k⟩
/-- the first place that is none, or whose name stood before -/
def badP : List Str → Nat → List D → Option Nat
  | _, _, [] => none
  | seen, i, d :: ds => if placeD d && !decide (nameOf d ∈ seen) then badP (seen ++ [nameOf d]) (i + 1) ds else some i
def faultP (x : D) : Option Int := match seqD x with
  | some ds => if (decide (1 ≤ ds.length) && decide (ds.length ≤ 40)) = true then (badP [] 0 ds).map fun i : Nat => (i : Int) else some (-1)
  | none => some (-1)
def seenD (zs : List Str) : List (Key × D) := zs.map fun z => (.inr z, .bl true)
theorem seen_val (zs : List Str) (z : Str) : (valD (seenD zs) (.inr z)).isSome = decide (z ∈ zs) := by
  unfold valD seenD
  rw [Option.isSome_map]
  induction zs with
  | nil => simp
  | cons y r ih =>
    rw [List.map_cons, List.find?_cons]
    by_cases e : y = z
    · subst e; simp
    · have e1 : decide ((Sum.inr y : Key) = Sum.inr z) = false := decide_eq_false fun q => e (by injection q)
      rw [e1, ih]
      apply decide_eq_decide.mpr
      simp [Ne.symm e]
theorem seen_put {zs : List Str} {z : Str} (h : z ∉ zs) : putD (seenD zs) (.inr z) (.bl true) = seenD (zs ++ [z]) := by
  unfold putD
  rw [if_neg]
  · simp [seenD]
  · rw [List.any_eq_true]
    rintro ⟨kv, hk, e⟩
    obtain ⟨y, hy, rfl⟩ := List.mem_map.mp hk
    have e2 := of_decide_eq_true e
    injection e2 with e2
    subst e2; exact h hy
theorem in_seen {M : Mst} {Q : DK} {a : Addr} {zs : List Str} {z : Str} (hm : M a = some (.dK (seenD zs))) : dIn false (.str z) (.ref a) M Q = Q (.bl (decide (z ∈ zs))) M := by
  unfold dIn
  simp only [dgetD, hm, keyD, Option.map_some, seen_val, Bool.false_xor]
theorem placeD_iff {x : D} : placeD x = true ↔ ∃ z i, x = .tup [.str z, .int i] ∧ nameS z = true ∧ 1 ≤ i ∧ i ≤ 4 := by
  constructor
  · intro h
    unfold placeD at h
    split at h
    · next a b =>
      rw [Bool.and_eq_true] at h
      cases a <;> first | (cases h.1; done) | skip
      cases b <;> first | (cases h.2; done) | skip
      have h2 := h.2
      simp only [wholeD, Bool.and_eq_true, decide_eq_true_eq] at h2
      exact ⟨_, _, rfl, h.1, h2.1, h2.2⟩
    · cases h
  · rintro ⟨z, i, rfl, h1, h2, h3⟩
    simp [placeD, nameD, h1, wholeD, h2, h3]
def qPlacesFault (sp_is_place : DSp) : DTS :=
  (qSeq (qIfS (qOr (qNot (qTB (qCB dIsi (qCons (qVar 0) (qCons (qC (.ty "tuple")) qNil))))) (qNot (qTB (qChain (dCmpI fun i j => decide (i ≤ j)) (dCmpI fun i j => decide (i ≤ j)) (qC (.int 1)) (qCB dLen (qCons (qVar 0) qNil)) (qC (.int 40))))))
  (qRet (qUn dNeg (qC (.int 1))))
  qNext)
  (qSeq (qAsg qDNew (gNameD 1))
  (qSeq (qFor (qiEnum0 (qCons (qVar 0) qNil)) (gTupD 2 (gConsD (gNameD 2) (gConsD (gNameD 3) gNilD)))
  (qSeq (qIfS (qOr (qNot (qTB (qCall sp_is_place [] (qCons (qVar 3) qNil)))) (qTB (qOp (dIn false) (qOp dIx (qVar 3) (qC (.int 0))) (qVar 1))))
  (qRet (qVar 2))
  qNext)
  (qAsg (qC (.bl true)) (gSubD (qVar 1) (qOp dIx (qVar 3) (qC (.int 0)))))))
  (qRet (qC .non)))))
def spPlaces : DSp := fun ds M Q _ => ∃ (n : Nat) (x : D), ds = [x] ∧ n ≤ 50000 ∧ Th n x ∧ Q (optI (faultP x)) M
theorem enum_tup {i : Nat} {ds : List D} {d : D} (h : (enumDI 0 ds)[i]? = some d) : ∃ e, ds[i]? = some e ∧ d = .tup [.int (i : Int), e] := by
  rw [enumDI_get] at h
  obtain ⟨e, h1, h2⟩ := Option.map_eq_some_iff.mp h
  exact ⟨e, h1, by rw [← h2, Int.zero_add]⟩
theorem drop_at {α : Type} {ds : List α} {i : Nat} {e : α} (h : ds[i]? = some e) : ds.drop i = e :: ds.drop (i + 1) := by
  obtain ⟨h1, rfl⟩ := List.getElem?_eq_some_iff.mp h
  exact List.drop_eq_getElem_cons h1
theorem places_ok (ds : List D) (M : Mst) (Q : DK) (Ed : DX → Mst → Prop) (h : upSp spPlaces ds M Q Ed) : qPlacesFault spIsPlace (fun x _ M => Ed x M) (retE Q) (startD ["thing", "seen", "at", "one"] ds) M := by
  obtain ⟨Q0, E0, ⟨n, x, rfl, hn, hx, k0⟩, kq, _⟩ := h
  have k : ∀ M', Sub M M' → Q (optI (faultP x)) M' := fun M' S => kq _ _ _ S k0
  show qPlacesFault _ _ _ [some x, none, none, none] M
  simp only [qPlacesFault, qOr, qNot, qChain, qSeq, qAsg, qTup, qCons, qNil, qOp, qUn, qC, qCall, qVar, qLst, newL_f, qIfS, qTB, qNext, qRet, qDrop, qFor, qCB, qAug, qSl, qPart, qNoPart, gNameD, gSub_eq, dInt_i, dInt0_i, dAdd_i, dCmpI_i, List.set_cons_zero, List.set_cons_succ, List.getElem?_cons_zero, List.getElem?_cons_succ, List.append_nil]
  rw [th_isi hx]
  cases hs : seqD x with
  | none =>
    have e : faultP x = some (-1) := by simp [faultP, hs]
    rw [e] at k
    simp only [Option.isSome_none, Bool.not_false, if_true, z_neg]
    exact k M (Sub.refl _)
  | some es =>
    obtain ⟨hl, hp⟩ := hx.seq hs
    simp only [Option.isSome_some, Bool.not_true, Bool.false_eq_true, if_false, seq_len hs]
    refine (chain_len (lo := 1) (hi := 40)).mpr ?_
    have e : faultP x = if (decide (1 ≤ es.length) && decide (es.length ≤ 40)) = true then (badP [] 0 es).map fun i : Nat => (i : Int) else some (-1) := by simp [faultP, hs]
    rw [e] at k
    cases hc : decide (1 ≤ es.length) && decide (es.length ≤ 40) with
    | false =>
      rw [hc] at k
      simp only [Bool.not_false, if_true, z_neg]
      exact k M (Sub.refl _)
    | true =>
      rw [hc] at k
      simp only [Bool.not_true, Bool.false_eq_true, if_false, if_true] at k ⊢
      intro a ha
      simp only [qiEnum0, qSeq, qAsg, qTup, qCons, qNil, qOp, qUn, qC, qCall, qVar, qLst, newL_f, qIfS, qTB, qNext, qRet, qDrop, qFor, qCB, qAug, qSl, qPart, qNoPart, gNameD, gSub_eq, dInt_i, dInt0_i, dAdd_i, dCmpI_i, List.set_cons_zero, List.set_cons_succ, List.getElem?_cons_zero, List.getElem?_cons_succ, List.append_nil, seq_at hs]
      refine loopL_inv (fun i p M' => ∃ seen p2 p3, p = [some x, some (.ref a), p2, p3] ∧ seen.length ≤ i ∧ M' a = some (.dK (seenD seen)) ∧ Sub M M' ∧ badP [] 0 es = badP seen i (es.drop i)) (n := es.length) (by simp) (fun i d p M' R hd hI hR => ?_) (fun p M' hI => ?_)
        ⟨[], none, none, rfl, Nat.zero_le _, put_same, (Sub.refl M).put ha, by rw [List.drop_zero]⟩
      · obtain ⟨seen, p2, p3, rfl, hsl, hm, hS, hb⟩ := hI
        obtain ⟨e, he, rfl⟩ := enum_tup hd
        rw [drop_at he] at hb
        have hi : i < es.length := (List.getElem?_eq_some_iff.mp he).1
        have hpe := hp e (List.mem_of_getElem? he)
        refine ⟨trivial, ?_⟩
        simp only [gTupD, gConsD, gNilD, qSeq, qAsg, qTup, qCons, qNil, qOp, qUn, qC, qCall, qVar, qLst, newL_f, qIfS, qTB, qNext, qRet, qDrop, qFor, qCB, qAug, qSl, qPart, qNoPart, gNameD, gSub_eq, dInt_i, dInt0_i, dAdd_i, dCmpI_i, List.set_cons_zero, List.set_cons_succ, List.getElem?_cons_zero, List.getElem?_cons_succ, List.append_nil]
        refine ⟨rfl, rfl, ?_⟩
        refine ⟨n, e, rfl, by omega, hpe, ?_⟩
        rw [badP] at hb
        cases hpl : placeD e with
        | false =>
          rw [hpl, Bool.false_and, if_neg Bool.false_ne_true] at hb
          rw [hb] at k
          simp only [Bool.not_false, if_true]
          exact k M' hS
        | true =>
          obtain ⟨z, r, rfl, hz, _, _⟩ := placeD_iff.mp hpl
          simp only [Bool.not_true, Bool.false_eq_true, if_false, qSeq, qAsg, qTup, qCons, qNil, qOp, qUn, qC, qCall, qVar, qLst, newL_f, qIfS, qTB, qNext, qRet, qDrop, qFor, qCB, qAug, qSl, qPart, qNoPart, gNameD, gSub_eq, dInt_i, dInt0_i, dAdd_i, dCmpI_i, List.set_cons_zero, List.set_cons_succ, List.getElem?_cons_zero, List.getElem?_cons_succ, List.append_nil, z_ix_t0]
          rw [in_seen hm]
          rw [hpl, Bool.true_and] at hb
          have en : nameOf (.tup [.str z, .int r]) = z := rfl
          rw [en] at hb
          by_cases hin : z ∈ seen
          · rw [if_neg (by simp [hin])] at hb
            rw [hb] at k
            simp only [hin, decide_true, if_true]
            exact k M' hS
          · rw [if_pos (by simp [hin])] at hb
            simp only [hin, decide_false, Bool.false_eq_true, if_false]
            unfold dSet
            simp only [hm, keyD, seen_put hin]
            refine ⟨by simp [seenD]; omega, hR _ _ ⟨seen ++ [z], _, _, rfl, by simp; omega, put_same, hS.put ha, hb⟩⟩
      · obtain ⟨seen, p2, p3, rfl, hsl, hm, hS, hb⟩ := hI
        refine ⟨trivial, ?_⟩
        rw [List.drop_length, badP] at hb
        rw [hb] at k
        exact k M' hS
end DL
namespace DL
open PySem L2 Tx20 Tx21
def badS (zs : List Str) : Nat → List Str → List D → Option Nat
  | _, _, [] => none
  | i, seen, .str z :: ds => if (decide (z ∈ zs) && !decide (z ∈ seen)) = true then badS zs (i + 1) (seen ++ [z]) ds else some i
  | i, _, _ :: _ => some i
def faultS (zs : List Str) (x : D) : Option Int := match seqD x with
  | some ds => if decide (12 < ds.length) = true then some (-1) else (badS zs 0 [] ds).map fun i : Nat => (i : Int)
  | none => some (-1)
def qStations (sp_is_one_of : DSp) : DTS :=
  (qSeq (qIfS (qOr (qNot (qTB (qCB dIsi (qCons (qVar 1) (qCons (qC (.ty "tuple")) qNil))))) (qTB (qOp (dCmpI fun i j => decide (j < i)) (qCB dLen (qCons (qVar 1) qNil)) (qC (.int 12)))))
  (qRet (qUn dNeg (qC (.int 1))))
  qNext)
  (qSeq (qFor (qiEnum0 (qCons (qVar 1) qNil)) (gTupD 2 (gConsD (gNameD 2) (gConsD (gNameD 3) gNilD)))
  (qIfS (qOr (qNot (qTB (qCall sp_is_one_of [] (qCons (qVar 3) (qCons (qVar 0) qNil))))) (qTB (qOp (dIn false) (qVar 3) (qSl false (qVar 1) qNoPart (qPart (qVar 2))))))
  (qRet (qVar 2))
  qNext))
  (qRet (qC .non))))
def spStations : DSp := fun ds M Q _ => ∃ (n : Nat) (t x : D) (zs : List Str), ds = [t, x] ∧ n ≤ 50000 ∧ TextsD M zs t ∧ Th n x ∧ Q (optI (faultS zs x)) M
theorem oneD_iff {zs : List Str} {x : D} : oneD zs x = true ↔ ∃ z, x = .str z ∧ z ∈ zs := by cases x <;> simp [oneD]
theorem badS_not {zs seen : List Str} {i : Nat} {x : D} {ds : List D} (h : oneD zs x = false) : badS zs i seen (x :: ds) = some i := by
  cases x <;> first | rfl | skip
  simp only [oneD] at h
  rw [badS, if_neg (by rw [h]; simp)]
theorem chain_gt {hi : Nat} {z : Nat} {M : Mst} {Q : DK} : dCmpI (fun i j => decide (j < i)) (.int (z : Int)) (.int (hi : Int)) M Q = Q (.bl (decide (hi < z))) M := by
  have e1 : decide ((hi : Int) < (z : Int)) = decide (hi < z) := decide_eq_decide.mpr (by omega)
  rw [dCmpI_i, e1]
theorem stations_ok (ds : List D) (M : Mst) (Q : DK) (Ed : DX → Mst → Prop) (h : upSp spStations ds M Q Ed) : qStations spIsOne (fun x _ M => Ed x M) (retE Q) (startD ["names", "thing", "at", "one"] ds) M := by
  obtain ⟨Q0, E0, ⟨n, t, x, zs, rfl, hn, ht, hx, k0⟩, kq, _⟩ := h
  have k : Q (optI (faultS zs x)) M := kq _ _ _ (Sub.refl _) k0
  show qStations _ _ _ [some t, some x, none, none] M
  simp only [qStations, qOr, qNot, qSeq, qAsg, qTup, qCons, qNil, qOp, qUn, qC, qCall, qVar, qLst, newL_f, qIfS, qTB, qNext, qRet, qDrop, qFor, qCB, qAug, qSl, qPart, qNoPart, gNameD, gSub_eq, dInt_i, dInt0_i, dAdd_i, dCmpI_i, List.set_cons_zero, List.set_cons_succ, List.getElem?_cons_zero, List.getElem?_cons_succ, List.append_nil]
  rw [th_isi hx]
  cases hs : seqD x with
  | none =>
    have e : faultS zs x = some (-1) := by simp [faultS, hs]
    rw [e] at k
    simp only [Option.isSome_none, Bool.not_false, if_true, z_neg]
    exact k
  | some es =>
    obtain ⟨hl, hp⟩ := hx.seq hs
    have e : faultS zs x = if decide (12 < es.length) = true then some (-1) else (badS zs 0 [] es).map fun i : Nat => (i : Int) := by simp [faultS, hs]
    rw [e] at k
    simp only [Option.isSome_some, Bool.not_true, Bool.false_eq_true, if_false, seq_len hs]
    refine (chain_gt (hi := 12)).mpr ?_
    cases hc : decide (12 < es.length) with
    | true =>
      rw [hc] at k
      simp only [if_true, z_neg] at k ⊢
      exact k
    | false =>
      rw [hc] at k
      simp only [Bool.false_eq_true, if_false] at k ⊢
      simp only [qiEnum0, qSeq, qAsg, qTup, qCons, qNil, qOp, qUn, qC, qCall, qVar, qLst, newL_f, qIfS, qTB, qNext, qRet, qDrop, qFor, qCB, qAug, qSl, qPart, qNoPart, gNameD, gSub_eq, dInt_i, dInt0_i, dAdd_i, dCmpI_i, List.set_cons_zero, List.set_cons_succ, List.getElem?_cons_zero, List.getElem?_cons_succ, List.append_nil, seq_at hs]
      refine loopL_inv (fun i p M' => ∃ (seen : List Str) (p2 p3 : Option D), p = [some t, some x, p2, p3] ∧ es.take i = seen.map .str ∧ M' = M ∧ badS zs 0 [] es = badS zs i seen (es.drop i)) (n := es.length) (by simp) (fun i d p M' R hd hI hR => ?_) (fun p M' hI => ?_)
        ⟨[], none, none, rfl, rfl, rfl, by rw [List.drop_zero]⟩
      · obtain ⟨seen, p2, p3, rfl, hsn, rfl, hb⟩ := hI
        obtain ⟨e, he, rfl⟩ := enum_tup hd
        rw [drop_at he] at hb
        have hpe := hp e (List.mem_of_getElem? he)
        refine ⟨trivial, ?_⟩
        simp only [gTupD, gConsD, gNilD, qSeq, qAsg, qTup, qCons, qNil, qOp, qUn, qC, qCall, qVar, qLst, newL_f, qIfS, qTB, qNext, qRet, qDrop, qFor, qCB, qAug, qSl, qPart, qNoPart, gNameD, gSub_eq, dInt_i, dInt0_i, dAdd_i, dCmpI_i, List.set_cons_zero, List.set_cons_succ, List.getElem?_cons_zero, List.getElem?_cons_succ, List.append_nil]
        refine ⟨rfl, rfl, ?_⟩
        refine ⟨n, e, t, zs, rfl, hpe, ht, ?_⟩
        cases ho : oneD zs e with
        | false =>
          rw [badS_not ho] at hb
          rw [hb] at k
          simp only [Bool.not_false, if_true]
          exact k
        | true =>
          obtain ⟨z, rfl, hz⟩ := oneD_iff.mp ho
          simp only [Bool.not_true, Bool.false_eq_true, if_false, qSeq, qAsg, qTup, qCons, qNil, qOp, qUn, qC, qCall, qVar, qLst, newL_f, qIfS, qTB, qNext, qRet, qDrop, qFor, qCB, qAug, qSl, qPart, qNoPart, gNameD, gSub_eq, dInt_i, dInt0_i, dAdd_i, dCmpI_i, List.set_cons_zero, List.set_cons_succ, List.getElem?_cons_zero, List.getElem?_cons_succ, List.append_nil]
          have hnx : (es.take (i + 1)) = (seen ++ [z]).map D.str := by rw [List.take_add_one, he, hsn]; simp
          refine seq_cut hs ?_ ?_ <;> rw [hsn] <;> first | rw [textsD_t z] | rw [textsD_x z]
          all_goals
            by_cases hin : z ∈ seen
            · rw [badS, if_neg (by simp [hin])] at hb
              rw [hb] at k
              simp only [hin, decide_true, if_true]
              exact k
            · rw [badS, if_pos (by simp [hz, hin])] at hb
              simp only [hin, decide_false, Bool.false_eq_true, if_false]
              exact hR _ _ ⟨seen ++ [z], _, _, rfl, hnx, rfl, hb⟩
      · obtain ⟨seen, p2, p3, rfl, hsn, rfl, hb⟩ := hI
        refine ⟨trivial, ?_⟩
        rw [List.drop_length, badS] at hb
        rw [hb] at k
        exact k
abbrev Row_ := Str × Int
def plD (r : Row_) : D := .tup [.str r.1, .int r.2]
def RowOk (r : Row_) : Prop := nameS r.1 = true ∧ 1 ≤ r.2 ∧ r.2 ≤ 4
theorem badP_ok : ∀ (rows : List Row_) (seen : List Str) (i : Nat), (∀ r ∈ rows, RowOk r) → (seen ++ rows.map (·.1)).Nodup → badP seen i (rows.map plD) = none
  | [], _, _, _, _ => rfl
  | r :: rows, seen, i, h, hd => by
    have h1 := h r (List.mem_cons_self ..)
    have hp : placeD (plD r) = true := placeD_iff.mpr ⟨_, _, rfl, h1⟩
    have hn : nameOf (plD r) = r.1 := rfl
    rw [List.map_cons] at hd ⊢
    have hni : r.1 ∉ seen := fun z => (List.nodup_append.mp hd).2.2 _ z _ (List.mem_cons_self ..) rfl
    rw [badP, hp, hn, if_pos (by simp [hni])]
    exact badP_ok rows _ _ (fun x hx => h x (List.mem_cons_of_mem _ hx)) (by rw [List.append_assoc]; exact hd)
theorem badS_ok (zs : List Str) : ∀ (ss seen : List Str) (i : Nat), (∀ z ∈ ss, z ∈ zs) → (seen ++ ss).Nodup → badS zs i seen (ss.map .str) = none
  | [], _, _, _, _ => rfl
  | z :: ss, seen, i, h, hd => by
    have hni : z ∉ seen := fun q => (List.nodup_append.mp hd).2.2 _ q _ (List.mem_cons_self ..) rfl
    rw [List.map_cons, badS, if_pos (by simp [hni, h z (List.mem_cons_self ..)])]
    exact badS_ok zs ss _ _ (fun x hx => h x (List.mem_cons_of_mem _ hx)) (by rw [List.append_assoc]; exact hd)
def riskD (rows : List Row_) : List (Key × D) := rows.map fun r => (.inr r.1, .int r.2)
theorem risk_pairs : ∀ rows : List Row_, pairsD (rows.map plD) = some (riskD rows)
  | [] => rfl
  | r :: rows => by
    have := risk_pairs rows
    rw [List.map_cons, plD]
    show (match keyD (.str r.1), pairsD (rows.map plD) with | some k, some ks => some ((k, D.int r.2) :: ks) | _, _ => none) = _
    rw [this]; rfl
theorem risk_val (rows : List Row_) (z : Str) : (valD (riskD rows) (.inr z)).isSome = decide (z ∈ rows.map (·.1)) := by
  unfold valD riskD
  rw [Option.isSome_map]
  induction rows with
  | nil => simp
  | cons y r ih =>
    rw [List.map_cons, List.find?_cons]
    by_cases e : y.1 = z
    · subst e; simp
    · have e1 : decide ((Sum.inr y.1 : Key) = Sum.inr z) = false := decide_eq_false fun q => e (by injection q)
      rw [e1, ih]
      apply decide_eq_decide.mpr
      simp [Ne.symm e]
theorem risk_putAll : ∀ (rows pre : List Row_), ((pre ++ rows).map (·.1)).Nodup → putAllD (riskD pre) (riskD rows) = riskD (pre ++ rows)
  | [], pre, _ => by simp [putAllD, riskD]
  | r :: rows, pre, hd => by
    have hni : r.1 ∉ pre.map (·.1) := fun q => by
      rw [List.map_append] at hd
      exact (List.nodup_append.mp hd).2.2 _ q _ (by simp) rfl
    have e : putD (riskD pre) (.inr r.1) (.int r.2) = riskD (pre ++ [r]) := by
      unfold putD
      rw [if_neg]
      · simp [riskD]
      · rw [List.any_eq_true]
        rintro ⟨kv, hk, e⟩
        obtain ⟨y, hy, rfl⟩ := List.mem_map.mp hk
        have e2 := of_decide_eq_true e
        injection e2 with e2
        exact hni (List.mem_map.mpr ⟨y, hy, e2⟩)
    have ih := risk_putAll rows (pre ++ [r]) (by rw [List.append_assoc]; exact hd)
    rw [List.append_assoc] at ih
    show putAllD (putD (riskD pre) (.inr r.1) (.int r.2)) (riskD rows) = _
    rw [e, ih]; rfl
theorem zip_split {α β : Type} : ∀ l : List (α × β), (l.map (·.1)).zip (l.map (·.2)) = l
  | [] => rfl
  | p :: r => by simp [zip_split r]
def risksD (rows : List Row_) : D := .dct ((riskD rows).map (·.1)) ((riskD rows).map (·.2))
theorem textsD_risk {M : Mst} {rows : List Row_} : TextsD M (rows.map (·.1)) (risksD rows) := fun z Q => by
  unfold dIn risksD
  simp only [dgetD, keyD, Option.map_some, zip_split, risk_val, Bool.false_xor]
def qNeed (c_NoGround : Addr) : DTS :=
  (qIfS (qTB (qOp (dIs true) (qVar 1) (qC .non)))
  (qRaise c_NoGround [(PySem.Str.ofString "part"), (PySem.Str.ofString "at")] (qCons (qVar 0) (qCons (qVar 1) qNil)))
  qNext)
def spNeed0 : DSp := fun ds M Q _ => ∃ x : D, ds = [x, .non] ∧ Q .non M
theorem need0_ok (c : Addr) (ds : List D) (M : Mst) (Q : DK) (Ed : DX → Mst → Prop) (h : upSp spNeed0 ds M Q Ed) : qNeed c (fun x _ M => Ed x M) (retE Q) (startD ["part", "at"] ds) M := by
  obtain ⟨Q0, E0, ⟨x, rfl, k0⟩, kq, _⟩ := h
  have k : Q .non M := kq _ _ _ (Sub.refl _) k0
  show qNeed _ _ _ [some x, some .non] M
  simp only [qNeed, qSeq, qAsg, qTup, qCons, qNil, qOp, qUn, qC, qCall, qVar, qLst, newL_f, qIfS, qTB, qNext, qRet, qDrop, qFor, qCB, qAug, qSl, qPart, qNoPart, gNameD, gSub_eq, dInt_i, dInt0_i, dAdd_i, dCmpI_i, List.set_cons_zero, List.set_cons_succ, List.getElem?_cons_zero, List.getElem?_cons_succ, List.append_nil, z_isnot, isNon, Bool.not_true, Bool.false_eq_true, if_false]
  exact k
def qRoads (sp_is_road : DSp) : DTS :=
  (qSeq (qIfS (qOr (qNot (qTB (qCB dIsi (qCons (qVar 1) (qCons (qC (.ty "tuple")) qNil))))) (qTB (qOp (dCmpI fun i j => decide (j < i)) (qCB dLen (qCons (qVar 1) qNil)) (qC (.int 80)))))
  (qRet (qUn dNeg (qC (.int 1))))
  qNext)
  (qSeq (qAsg qDNew (gNameD 2))
  (qSeq (qFor (qiEnum0 (qCons (qVar 1) qNil)) (gTupD 2 (gConsD (gNameD 3) (gConsD (gNameD 4) gNilD)))
  (qSeq (qIfS (qOr (qNot (qTB (qCall sp_is_road [] (qCons (qVar 0) (qCons (qVar 4) qNil))))) (qTB (qOp (dIn false) (qCB dTuple (qCons (qCB (dSorted false) (qCons (qSl false (qVar 4) qNoPart (qPart (qC (.int 2)))) qNil)) qNil)) (qVar 2))))
  (qRet (qVar 3))
  qNext)
  (qAsg (qC (.bl true)) (gSubD (qVar 2) (qCB dTuple (qCons (qCB (dSorted false) (qCons (qSl false (qVar 4) qNoPart (qPart (qC (.int 2)))) qNil)) qNil))))))
  (qRet (qC .non)))))
def spRoads0 : DSp := fun ds M Q _ => ∃ x : D, ds = [x, .tup []] ∧ Q .non M
theorem roads0_ok (p : DSp) (ds : List D) (M : Mst) (Q : DK) (Ed : DX → Mst → Prop) (h : upSp spRoads0 ds M Q Ed) : qRoads p (fun x _ M => Ed x M) (retE Q) (startD ["names", "thing", "seen", "at", "one"] ds) M := by
  obtain ⟨Q0, E0, ⟨x, rfl, k0⟩, kq, _⟩ := h
  have k : ∀ M', Sub M M' → Q .non M' := fun M' S => kq _ _ _ S k0
  show qRoads _ _ _ [some x, some (.tup []), none, none, none] M
  simp only [qRoads, qOr, qNot, qSeq, qAsg, qTup, qCons, qNil, qOp, qUn, qC, qCall, qVar, qLst, newL_f, qIfS, qTB, qNext, qRet, qDrop, qFor, qCB, qAug, qSl, qPart, qNoPart, gNameD, gSub_eq, dInt_i, dInt0_i, dAdd_i, dCmpI_i, List.set_cons_zero, List.set_cons_succ, List.getElem?_cons_zero, List.getElem?_cons_succ, List.append_nil, z_isi_tup_tup, Bool.not_true, Bool.false_eq_true, if_false, z_len_tup, List.length_nil]
  intro a ha
  exact ⟨trivial, k _ ((Sub.refl M).put ha)⟩
abbrev FG : List Str := [(PySem.Str.ofString "risks"), (PySem.Str.ofString "places"), (PySem.Str.ofString "roads"), (PySem.Str.ofString "stations")]
structure GrOk (rows : List Row_) (ss : List Str) : Prop where
  ok : ∀ r ∈ rows, RowOk r
  nd : (rows.map (·.1)).Nodup
  l0 : 1 ≤ rows.length
  l1 : rows.length ≤ 40
  si : ∀ z ∈ ss, z ∈ rows.map (·.1)
  sd : ss.Nodup
  sl : ss.length ≤ 12
theorem nameS_tx {z : Str} (h : nameS z = true) : Tx_ 8 z := by
  unfold nameS lettB at h
  simp only [Bool.and_eq_true, decide_eq_true_eq, List.all_eq_true] at h
  exact ⟨fun c hc => by have := h.2 c hc; omega, h.1.2⟩
theorem GrOk.places {rows : List Row_} {ss : List Str} (h : GrOk rows ss) : Th 40 (.xtp (rows.map plD)) := .xt (by rw [List.length_map]; exact h.l1) fun d hd => by
  obtain ⟨r, hr, rfl⟩ := List.mem_map.mp hd
  refine .tup (by simp) fun e he => ?_
  simp only [List.mem_cons, List.not_mem_nil, or_false] at he
  rcases he with rfl | rfl
  · exact .str ((nameS_tx (h.ok r hr).1).mono (by decide))
  · exact .int _
theorem GrOk.stations {rows : List Row_} {ss : List Str} (h : GrOk rows ss) : Th 40 (.xtp (ss.map .str)) := .xt (by rw [List.length_map]; exact Nat.le_trans h.sl (by decide)) fun d hd => by
  obtain ⟨z, hz, rfl⟩ := List.mem_map.mp hd
  obtain ⟨r, hr, rfl⟩ := List.mem_map.mp (h.si z hz)
  exact .str ((nameS_tx (h.ok r hr).1).mono (by decide))
def qGround (c_Ground : Addr) (sp_need : DSp) (sp_places_fault : DSp) (sp_roads_fault : DSp) (sp_stations_fault : DSp) : DTS :=
  (qSeq (qDrop (qCall sp_need [] (qCons (qC (.str (PySem.Str.ofString "places"))) (qCons (qCall sp_places_fault [] (qCons (qVar 1) qNil)) qNil))))
  (qSeq (qSetF c_Ground FG 0 (PySem.Str.ofString "risks") (qVar 0) (qFrzE (qCB dDict (qCons (qVar 1) qNil))))
  (qSeq (qDrop (qCall sp_need [] (qCons (qC (.str (PySem.Str.ofString "roads"))) (qCons (qCall sp_roads_fault [] (qCons (qFld c_Ground FG 0 (qVar 0)) (qCons (qVar 2) qNil))) qNil))))
  (qSeq (qDrop (qCall sp_need [] (qCons (qC (.str (PySem.Str.ofString "stations"))) (qCons (qCall sp_stations_fault [] (qCons (qFld c_Ground FG 0 (qVar 0)) (qCons (qVar 3) qNil))) qNil))))
  (qSeq (qSetF c_Ground FG 1 (PySem.Str.ofString "places") (qVar 0) (qVar 1))
  (qSeq (qSetF c_Ground FG 2 (PySem.Str.ofString "roads") (qVar 0) (qVar 2))
  (qSetF c_Ground FG 3 (PySem.Str.ofString "stations") (qVar 0) (qVar 3))))))))
def grD (rows : List Row_) (ss : List Str) : List D := [risksD rows, .xtp (rows.map plD), .tup [], .xtp (ss.map .str)]
def spGround0 (c : Addr) : DSp := fun ds M Q _ => ∃ (a : Addr) (rows : List Row_) (ss : List Str), ds = [.ref a, .xtp (rows.map plD), .tup [], .xtp (ss.map .str)] ∧ M a = some (.ins c []) ∧ GrOk rows ss ∧ Q .non (put M a (.ins c (FG.zip (grD rows ss))))
theorem ground0_ok (c : Addr) (ds : List D) (M : Mst) (Q : DK) (Ed : DX → Mst → Prop) (h : upSp (spGround0 c) ds M Q Ed) : qGround c spNeed0 spPlaces spRoads0 spStations (fun x _ M => Ed x M) (retE Q) (startD ["self", "places", "roads", "stations"] ds) M := by
  obtain ⟨Q0, E0, ⟨a, rows, ss, rfl, ha, g, k0⟩, kq, _⟩ := h
  have k : Q .non (put M a (.ins c (FG.zip (grD rows ss)))) := kq _ _ _ (Sub.refl _) k0
  show qGround _ _ _ _ _ _ _ [some (.ref a), some (.xtp (rows.map plD)), some (.tup []), some (.xtp (ss.map .str))] M
  simp only [qGround, qSetF, qFld, qFrzE, qSeq, qAsg, qTup, qCons, qNil, qOp, qUn, qC, qCall, qVar, qLst, newL_f, qIfS, qTB, qNext, qRet, qDrop, qFor, qCB, qAug, qSl, qPart, qNoPart, gNameD, gSub_eq, dInt_i, dInt0_i, dAdd_i, dCmpI_i, List.set_cons_zero, List.set_cons_succ, List.getElem?_cons_zero, List.getElem?_cons_succ, List.append_nil]
  have f1 : faultP (.xtp (rows.map plD)) = none := by
    have l0 := g.l0
    have l1 := g.l1
    show (if (decide (1 ≤ (rows.map plD).length) && decide ((rows.map plD).length ≤ 40)) = true then (badP [] 0 (rows.map plD)).map fun i : Nat => (i : Int) else some (-1)) = none
    rw [if_pos (by simp [l0, l1]), badP_ok rows [] 0 g.ok (by simpa using g.nd)]; rfl
  have f2 : faultS (rows.map (·.1)) (.xtp (ss.map .str)) = none := by
    have l0 := g.sl
    show (if decide (12 < (ss.map D.str).length) = true then some (-1) else (badS (rows.map (·.1)) 0 [] (ss.map D.str)).map fun i : Nat => (i : Int)) = none
    rw [if_neg (by simp; omega), badS_ok _ ss [] 0 g.si (by simpa using g.sd)]; rfl
  refine ⟨40, _, rfl, by decide, g.places, ?_⟩
  rw [f1]
  refine ⟨_, rfl, ?_⟩
  simp only [dDict, risk_pairs]
  refine ⟨by simp [riskD]; have := g.l1; omega, fun p hp => ?_⟩
  have e := risk_putAll rows [] (by simpa using g.nd)
  rw [show riskD [] = [] from rfl, List.nil_append] at e
  simp only [put_same, e, del_put hp, ha, List.map_nil, List.length_nil, List.take_zero, Nat.zero_le, true_and]
  refine ⟨by decide, ?_⟩
  have i0 : ∀ (M : Mst) fs, M a = some (.ins c fs) → insD M (.ref a) = some (c, fs.map (·.1), fs.map (·.2)) := fun M fs h => by simp [insD, res, h]
  simp only [i0 _ _ put_same, setAt, List.length_nil, Nat.lt_irrefl, if_false, List.nil_append, List.map_cons, List.map_nil, List.getElem?_cons_zero]
  refine ⟨trivial, rfl, _, rfl, _, rfl, ?_⟩
  simp only [i0 _ _ put_same]
  refine ⟨trivial, rfl, 40, _, _, _, rfl, by decide, textsD_risk, g.stations, ?_⟩
  rw [f2]
  refine ⟨_, rfl, ?_⟩
  simp only [put_same, put_put]
  exact ⟨trivial, rfl, Nat.le_refl 1, by decide, rfl, Nat.le_refl 2, by decide, rfl, Nat.le_refl 3, by decide, k⟩
end DL
namespace DL
open PySem L2 Tx20 Tx21
section
variable {n : Nat} {x : D} {M : Mst} {Q : DK}
theorem pick_x {ds : List D} {r : Int} (h0 : 0 ≤ r) (h1 : r < ds.length) (h : ∀ d ∈ ds, Q d M) : dIx (.xtp ds) (.int r) M Q := by
  obtain ⟨x, hx, hm⟩ := atI_some h0 h1
  rw [ix_x hx]; exact h x hm
end
end DL
namespace DL
open PySem L2 Tx20 Tx21
def qLNames (sp__law_take : DSp) : DTS :=
  (qSeq (qAsg (qC (.str (PySem.Str.ofString "abcdefghijklmnopqrstuvwxyz"))) (gNameD 2))
  (qSeq (qPar 3 4 (qCons (qCall sp__law_take [] (qCons (qVar 0) (qCons (qC (.int 2)) qNil))) (qCons (qCall sp__law_take [] (qCons (qVar 0) (qCons (qC (.int 26)) qNil))) qNil)))
  (qSeq (qAsg (qLst true qNil) (gNameD 5))
  (qSeq (qFor (qiRng1 (qCons (qVar 1) qNil)) (gNameD 6)
  (qSeq (qAsg (qBM "str" mJoin (qC (.str (PySem.Str.ofString ""))) (qCons (qLc false (qiRng1 (qCons (qOp dIx (qTup (qCons (qC (.int 0)) (qCons (qC (.int 1)) (qCons (qC (.int 2)) (qCons (qC (.int 7)) qNil))))) (qCall sp__law_take [] (qCons (qVar 0) (qCons (qC (.int 4)) qNil)))) qNil)) (gNameD 9) qYes (qOp dIx (qVar 2) (qCall sp__law_take [] (qCons (qVar 0) (qCons (qC (.int 26)) qNil)))) [9]) qNil)) (gNameD 7))
  (qSeq (qAsg (qOp dIx (qVar 2) (qOp (dInt (fun _ j => 0 < j) fun i j => i % j) (qOp (dAdd false) (qVar 4) (qOp (dInt CMul fun i j => i * j) (qC (.int 7)) (qVar 6))) (qC (.int 26)))) (gNameD 8))
  (qDrop (qBM "list" mApp (qVar 5) (qCons (qIf (qTB (qOp (dEq false) (qVar 3) (qC (.int 0)))) (qOp (dAdd false) (qVar 8) (qVar 7)) (qOp (dAdd false) (qVar 7) (qVar 8))) qNil))))))
  (qFrz 5 (qRet (qVar 5)))))))
/-- signs drawn, told by a relation -/
theorem ones_of {P : Nat → Prop} {ds ys : List D} (h : All2 (fun _ y => ∃ c : Nat, y = .str (one c) ∧ P c) ds ys) : ∃ cs : List Nat, ys = (cs.map one).map D.str ∧ cs.length = ds.length ∧ ∀ c ∈ cs, P c := by
  induction h with
  | nil => exact ⟨[], rfl, rfl, fun _ h => (by cases h)⟩
  | cons h _ ih =>
    obtain ⟨c, rfl, hz⟩ := h
    obtain ⟨w, e, l, a⟩ := ih
    exact ⟨c :: w, by simp [e], by simp [l], fun x hx => by
      rcases List.mem_cons.mp hx with rfl | hx
      · exact hz
      · exact a x hx⟩
def Low (c : Nat) : Prop := 97 ≤ c ∧ c ≤ 122
theorem lett_low : ∀ c ∈ (PySem.Str.ofString "abcdefghijklmnopqrstuvwxyz").cps.toList, 97 ≤ c ∧ c ≤ 122 := by decide +kernel
theorem lett_at : ∀ i, i < 26 → (PySem.Str.ofString "abcdefghijklmnopqrstuvwxyz").cps.toList[i]? = some (97 + i) := by decide +kernel
/-- letters[i] -/
theorem ix_lett {i : Nat} {M : Mst} {Q : DK} (hi : i < 26) (h : Q (.str (one (97 + i))) M) : dIx (.str (PySem.Str.ofString "abcdefghijklmnopqrstuvwxyz")) (.int (i : Int)) M Q := by
  unfold dIx
  simp only [dgetD, res_str, atI_n, lett_at i hi]
  exact h
def ownN (s j : Nat) : Nat := 97 + (s + 7 * j) % 26
def endC (f : Int) (z : Str) : Nat := if f = 0 then z.cps.toList.headD 0 else z.cps.toList.getLastD 0
theorem own_nd : ∀ s, s < 26 → ((List.range 26).map (ownN s)).Nodup := by decide +kernel
theorem own_ndm {s m : Nat} (hs : s < 26) (hm : m ≤ 26) : ((List.range m).map (ownN s)).Nodup := by
  have h := own_nd s hs
  have e : (List.range m).map (ownN s) = ((List.range 26).map (ownN s)).take m := by rw [← List.map_take, List.take_range, Nat.min_eq_left hm]
  rw [e]
  exact h.sublist (List.take_sublist ..)
theorem nameS_of {z : Str} (h0 : 1 ≤ z.length) (h1 : z.length ≤ 8) (h : ∀ c ∈ z.cps.toList, Low c) : nameS z = true := by
  unfold nameS lettB
  simp only [Bool.and_eq_true, decide_eq_true_eq, List.all_eq_true]
  exact ⟨⟨h0, h1⟩, fun c hc => h c hc⟩
theorem app_list {x y : Str} : (x ++ y).cps.toList = x.cps.toList ++ y.cps.toList := by
  show (x.cps ++ y.cps).toList = _
  rw [Array.toList_append]
theorem nd_of_map {α β : Type} {f : α → β} : ∀ {l : List α}, (l.map f).Nodup → l.Nodup
  | [], _ => List.nodup_nil
  | x :: l, h => by
    rw [List.map_cons, List.nodup_cons] at h
    rw [List.nodup_cons]
    exact ⟨fun hx => h.1 (List.mem_map_of_mem hx), nd_of_map h.2⟩
def spLNames : DSp := fun ds M Q _ => ∃ (b : Addr) (m : Nat), ds = [.ref b, .int (m : Int)] ∧ M b = some .bag ∧ m ≤ 26 ∧ ∀ zs : List Str, zs.length = m → zs.Nodup → (∀ z ∈ zs, nameS z = true) → Q (stL zs) M
theorem names_ok (ds : List D) (M : Mst) (Q : DK) (Ed : DX → Mst → Prop) (h : upSp spLNames ds M Q Ed) : qLNames spTake (fun x _ M => Ed x M) (retE Q) (startD ["_law_bag_here", "_law_many_here", "_law_letters", "_law_first", "_law_shift", "_law_found", "_law_k", "_law_stem", "_law_own", "_law_step"] ds) M := by
  obtain ⟨Q0, E0, ⟨b, m, rfl, hb, hm, k0⟩, kq, _⟩ := h
  have k : ∀ zs : List Str, zs.length = m → zs.Nodup → (∀ z ∈ zs, nameS z = true) → Q (stL zs) M := fun zs a c d => kq _ _ _ (Sub.refl _) (k0 zs a c d)
  show qLNames _ _ _ [some (.ref b), some (.int (m : Int)), none, none, none, none, none, none, none, none] M
  simp only [qLNames, qPar, qFrz, qBM, qSeq, qAsg, qTup, qCons, qNil, qOp, qUn, qC, qCall, qVar, qLst, newL_f, qIfS, qTB, qNext, qRet, qDrop, qFor, qCB, qAug, qSl, qPart, qNoPart, gNameD, gSub_eq, dInt_i, dInt0_i, dAdd_i, dCmpI_i, List.set_cons_zero, List.set_cons_succ, List.getElem?_cons_zero, List.getElem?_cons_succ, List.append_nil, z_l0, z_l1, z_l2, z_l3, z_l4, z_l5, z_l6, z_l7, z_l8, z_l9, z_l19, z_l24, z_l25, true_and, newL_t]
  refine take_call hb (by decide) (by decide) fun f f0 f1 => take_call hb (by decide) (by decide) fun sh s0 s1 => ?_
  obtain ⟨s, rfl⟩ : ∃ s : Nat, sh = (s : Int) := ⟨sh.toNat, by omega⟩
  have s26 : s < 26 := by omega
  intro l hl
  have nbl := ne_of_some hb hl
  simp only [qiRng1, qSeq, qAsg, qTup, qCons, qNil, qOp, qUn, qC, qCall, qVar, qLst, newL_f, qIfS, qTB, qNext, qRet, qDrop, qFor, qCB, qAug, qSl, qPart, qNoPart, gNameD, gSub_eq, dInt_i, dInt0_i, dAdd_i, dCmpI_i, List.set_cons_zero, List.set_cons_succ, List.getElem?_cons_zero, List.getElem?_cons_succ, List.append_nil, z_l0, z_l1, z_l2, z_l3, z_l4, z_l5, z_l6, z_l7, z_l8, z_l9, z_l19, z_l24, z_l25, true_and]
  refine ⟨by omega, by omega, ?_⟩
  refine loopL_inv (fun i p M' => ∃ (zs : List Str) (x6 x7 x8 x9 : Option D), p = [some (.ref b), some (.int (m : Int)), some (.str (PySem.Str.ofString "abcdefghijklmnopqrstuvwxyz")), some (.int f), some (.int (s : Int)), some (.ref l), x6, x7, x8, x9] ∧ M' = put M l (.lst (zs.map .str)) ∧ zs.map (endC f) = (List.range i).map (ownN s) ∧ ∀ z ∈ zs, nameS z = true) (n := m) (by simp) (fun i d p M' R hd hI hR => ?_) (fun p M' hI => ?_)
    ⟨[], none, none, none, none, rfl, rfl, rfl, fun _ h => by cases h⟩
  · obtain ⟨zs, x6, x7, x8, x9, rfl, rfl, hz, hn⟩ := hI
    obtain ⟨hi, rfl⟩ := range_at hd
    have hi : i < m := by simpa using hi
    have hb' : put M l (.lst (zs.map D.str)) b = some .bag := put_keep hb hl
    refine ⟨trivial, ?_⟩
    simp only [qiRng1, qBM, qLc, qSeq, qAsg, qTup, qCons, qNil, qOp, qUn, qC, qCall, qVar, qLst, newL_f, qIfS, qTB, qNext, qRet, qDrop, qFor, qCB, qAug, qSl, qPart, qNoPart, gNameD, gSub_eq, dInt_i, dInt0_i, dAdd_i, dCmpI_i, List.set_cons_zero, List.set_cons_succ, List.getElem?_cons_zero, List.getElem?_cons_succ, List.append_nil, z_l0, z_l1, z_l2, z_l3, z_l4, z_l5, z_l6, z_l7, z_l8, z_l9, z_l19, z_l24, z_l25, true_and]
    refine ⟨rfl, take_call hb' (by decide) (by decide) fun r r0 r1 => pick_t r0 (by simpa using r1) fun d hd => ?_⟩
    obtain ⟨q, rfl, q7⟩ : ∃ q : Nat, d = .int (q : Int) ∧ q ≤ 7 := by
      simp only [List.mem_cons, List.not_mem_nil, or_false] at hd
      rcases hd with rfl | rfl | rfl | rfl
      · exact ⟨0, rfl, by decide⟩
      · exact ⟨1, rfl, by decide⟩
      · exact ⟨2, rfl, by decide⟩
      · exact ⟨7, rfl, by decide⟩
    refine ⟨by omega, by omega, ?_⟩
    intro c hc
    refine lcR hc (fun _ => trivial) (by simp; omega) (fun _ y => ∃ c : Nat, y = .str (one c) ∧ Low c) (fun d hd M2 R2 S hR2 => ?_) fun ys hys => ?_
    · simp only [wipeD, qSeq, qAsg, qTup, qCons, qNil, qOp, qUn, qC, qCall, qVar, qLst, newL_f, qIfS, qTB, qNext, qRet, qDrop, qFor, qCB, qAug, qSl, qPart, qNoPart, gNameD, gSub_eq, dInt_i, dInt0_i, dAdd_i, dCmpI_i, List.set_cons_zero, List.set_cons_succ, List.getElem?_cons_zero, List.getElem?_cons_succ, List.append_nil, z_l0, z_l1, z_l2, z_l3, z_l4, z_l5, z_l6, z_l7, z_l8, z_l9, z_l19, z_l24, z_l25, true_and]
      refine take_call (S _ _ hb') (by decide) (by decide) fun y y0 y1 => ?_
      refine pick_s y0 (by rw [show (PySem.Str.ofString "abcdefghijklmnopqrstuvwxyz").length = 26 by decide +kernel]; exact y1) fun c hc => hR2 _ ⟨c, rfl, lett_low c hc⟩
    obtain ⟨cs, rfl, lc, hcs⟩ := ones_of hys
    have lc2 : cs.length = q := by rw [lc]; simp
    refine join_signs (fun c hc => by have := (hcs c hc).2; omega) (by omega) ?_
    refine ⟨.inr ⟨by omega, by omega⟩, by decide, ?_⟩
    have hr : ((s : Int) + 7 * (i : Int)) % 26 = (((s + 7 * i) % 26 : Nat) : Int) := by omega
    rw [hr]
    refine ix_lett (Nat.mod_lt _ (by decide)) ?_
    have ho : Low (ownN s i) := ⟨by unfold ownN; omega, by unfold ownN; have := Nat.mod_lt (s + 7 * i) (show 0 < 26 by decide); omega⟩
    rw [show 97 + (s + 7 * i) % 26 = ownN s i from rfl]
    have T : ∀ c ∈ (⟨cs.toArray⟩ : Str).cps.toList, Low c := fun c hc => hcs c (by simpa using hc)
    have L : (⟨cs.toArray⟩ : Str).length = q := by show cs.toArray.size = q; simpa using lc2
    generalize (⟨cs.toArray⟩ : Str) = st at T L
    have fin : ∀ w : Str, w.length = q + 1 → (∀ c ∈ w.cps.toList, Low c) → endC f w = ownN s i → mApp (.ref l) [.str w] (put M l (.lst (zs.map D.str))) fun _ M2 => R [some (.ref b), some (.int (m : Int)), some (.str (PySem.Str.ofString "abcdefghijklmnopqrstuvwxyz")), some (.int f), some (.int (s : Int)), some (.ref l), some (.int (i : Int)), some (.str st), some (.str (one (ownN s i))), x9] M2 := fun w h1 h2 h3 => by
      have hlen : zs.length = i := by have := congrArg List.length hz; simpa using this
      simp only [mApp, put_same, put_put]
      refine ⟨by simp; omega, hR _ _ ⟨zs ++ [w], _, _, _, _, rfl, by simp, by rw [List.map_append, hz, List.range_succ, List.map_append, List.map_singleton, List.map_singleton, h3], fun z hz => ?_⟩⟩
      rcases List.mem_append.mp hz with h | h
      · exact hn z h
      · rw [List.mem_singleton] at h; subst h; exact nameS_of (by omega) (by omega) h2
    simp only [qIf, z_eq_int, qSeq, qAsg, qTup, qCons, qNil, qOp, qUn, qC, qCall, qVar, qLst, newL_f, qIfS, qTB, qNext, qRet, qDrop, qFor, qCB, qAug, qSl, qPart, qNoPart, gNameD, gSub_eq, dInt_i, dInt0_i, dAdd_i, dCmpI_i, List.set_cons_zero, List.set_cons_succ, List.getElem?_cons_zero, List.getElem?_cons_succ, List.append_nil, z_l0, z_l1, z_l2, z_l3, z_l4, z_l5, z_l6, z_l7, z_l8, z_l9, z_l19, z_l24, z_l25, true_and, z_add_str]
    refine ⟨by simp [res, put_same, tyOk], ?_⟩
    have lone : (one (ownN s i)).length = 1 := rfl
    by_cases hf : f = 0
    · simp only [decide_eq_true hf, if_true]
      refine ⟨by omega, fin _ (by rw [len_append]; omega) (fun c hc => ?_) ?_⟩
      · rw [app_list, List.mem_append] at hc
        rcases hc with hc | hc
        · have : c = ownN s i := by simpa using hc
          rw [this]; exact ho
        · exact T c hc
      · unfold endC
        rw [if_pos hf, app_list]; rfl
    · simp only [decide_eq_false hf, Bool.false_eq_true, if_false]
      refine ⟨by omega, fin _ (by rw [len_append]; omega) (fun c hc => ?_) ?_⟩
      · rw [app_list, List.mem_append] at hc
        rcases hc with hc | hc
        · exact T c hc
        · have : c = ownN s i := by simpa using hc
          rw [this]; exact ho
      · unfold endC
        rw [if_neg hf, app_list]
        show (st.cps.toList ++ [ownN s i]).getLastD 0 = _
        simp
  · obtain ⟨zs, x6, x7, x8, x9, rfl, rfl, hz, hn⟩ := hI
    refine ⟨trivial, ?_⟩
    have hlen : zs.length = m := by have := congrArg List.length hz; simpa using this
    have nd : zs.Nodup := nd_of_map (f := endC f) (by rw [hz]; exact own_ndm s26 hm)
    simp only [qFrz, frz, qSeq, qAsg, qTup, qCons, qNil, qOp, qUn, qC, qCall, qVar, qLst, newL_f, qIfS, qTB, qNext, qRet, qDrop, qFor, qCB, qAug, qSl, qPart, qNoPart, gNameD, gSub_eq, dInt_i, dInt0_i, dAdd_i, dCmpI_i, List.set_cons_zero, List.set_cons_succ, List.getElem?_cons_zero, List.getElem?_cons_succ, List.append_nil, z_l0, z_l1, z_l2, z_l3, z_l4, z_l5, z_l6, z_l7, z_l8, z_l9, z_l19, z_l24, z_l25, true_and, put_same, del_put hl]
    exact k zs hlen nd hn
end DL
namespace DL
open PySem L2 Tx20 Tx21
end DL
namespace DL
open PySem PySem.Spec PyProof.Rows L2
/-- what a def promises where p's object, a caught exception, stands by -/
structure FnW (P : Program) (w : World) (K : PySem.W.Frag) (mg : Str → Option Value) (base : Heap) (CX : CXT) (k : Nat) (f : Addr) (fd : FuncData) (ps : List Str) (sp : Sp) (p : Addr × Obj) : Prop where
  len : ∀ vs H Q E, sp vs H Q E → vs.length = ps.length
  run : ∀ (A : Around) (outer : List Env) (s : Shared) (H : Hp) (args : Args) (us : List Value) (vs : List V) (Q : VK) (E : XK), L2H.RoomH k A → L2H.PinOk outer H s p → Env0 P w K mg base A outer s H → BindsTo s fd args (ps.zip us) → Vals vs us → sp vs H Q E →
    codeAny (model P w) A (.call (.ref f) args) (CR CX outer P w H s Q E) s
section
variable {P : Program} {w : World} {K : PySem.W.Frag} {mg : Str → Option Value} {base : Heap}
theorem FnW.mono {CX : CXT} {j k : Nat} {f : Addr} {fd : FuncData} {ps : List Str} {sp : Sp} {p : Addr × Obj} (F : FnW P w K mg base CX j f fd ps sp p) (h : j ≤ k) : FnW P w K mg base CX k f fd ps sp p :=
  ⟨F.len, fun A outer s H args us vs Q E hr => F.run A outer s H args us vs Q E (hr.mono h)⟩
theorem FnW.imp {CX : CXT} {k : Nat} {f : Addr} {fd : FuncData} {ps : List Str} {sp sp' : Sp} {p : Addr × Obj} (F : FnW P w K mg base CX k f fd ps sp p) (h : ∀ vs H Q E, sp' vs H Q E → sp vs H Q E) : FnW P w K mg base CX k f fd ps sp' p :=
  ⟨fun vs H Q E q => F.len vs H Q E (h _ _ _ _ q), fun A outer s H args us vs Q E hr hp he hb hv hs => F.run A outer s H args us vs Q E hr hp he hb hv (h _ _ _ _ hs)⟩
end
end DL
namespace DL
open PySem PySem.Spec PyProof.Rows L2
section
variable {prog : Program} {w : World} {A : Around} {E : Value → Shared → Prop} {s : Shared}
theorem draws_tuple (hh : A.handled = none) (it l : Addr) (hne : l ≠ it) (items : Array Value) : Draws prog w A it [it, l] items.size (fun i v => items[i]? = some v) (fun i h => h.IsTupleIter it l i ∧ h.IsTuple l items) where
  live := fun _ _ st => by obtain ⟨⟨o, ho, _⟩, _⟩ := st; exact ⟨o, ho⟩
  frame := fun _ _ _ st hk => by
    obtain ⟨h1, o, ho, r⟩ := st
    exact ⟨h1.at fun o e => hk it (by simp) o e, o, hk l (by simp) o ho, r⟩
  item := fun i s Q E hi st hQ => by
    refine RZ.nextOf_tuple_item st.1 st.2 (x := items[i]) (by simp [hi]) fun h' hit' hs' => ?_
    obtain ⟨_, o, ho, r⟩ := st
    exact hQ _ h' s.toks (by simp [hi]) ⟨hit', o, hs'.extBut _ _ hne ho, r⟩ hs'
  done := fun s Q E st hE => RZ.nextOf_tuple_end hh st.1 st.2 (by simp) hE
abbrev zmH1 (h : Heap) (l1 : Addr) : Heap := h.push { cls := .type "tuple_iterator", data := .fields #[.ref l1, .int 0 0] }
abbrev zmH2 (h : Heap) (l1 l2 : Addr) : Heap := (zmH1 h l1).push { cls := .type "list_iterator", data := .fields #[.ref l2, .int 0 0] }
abbrev zmH3 (h : Heap) (l1 l2 : Addr) : Heap := (zmH2 h l1 l2).push { cls := .type "tuple", data := .seq #[.ref h.objs.size, .ref (zmH1 h l1).objs.size] }
abbrev zmH4 (h : Heap) (l1 l2 : Addr) : Heap := (zmH3 h l1 l2).push { cls := .type "tuple", data := .seq #[.none, .none] }
abbrev zmH5 (h : Heap) (l1 l2 : Addr) : Heap := (zmH4 h l1 l2).push { cls := .type "zip", data := .fields #[.none, .bool false, .bool false, .ref (zmH2 h l1 l2).objs.size, .ref (zmH3 h l1 l2).objs.size] }
theorem meets_zm (l1 l2 : Addr) (xs ys : Array Value) : Meets (Builtin.«zip.__new__» ⟨[.type "zip", .ref l1, .ref l2], []⟩) (fun _ R s => s.heap.IsTuple l1 xs ∧ s.heap.IsList l2 ys ∧
    R (.ok (.ret (.ref (zmH4 s.heap l1 l2).objs.size))) { s with heap := zmH5 s.heap l1 l2 }) :=
  .of_wp fun prog w A R s h => by
    obtain ⟨hp, g, d, tk, os⟩ := s; obtain ⟨hl1, hl2, h⟩ := h
    have hsub := sub_zip
    have hL1 : Heap.IsTuple (Shared.heap ⟨hp, g, d, tk, os⟩) l1 xs := hl1
    have hL2 : Heap.IsList (Shared.heap ⟨hp.push { cls := .type "tuple_iterator", data := .fields #[.ref l1, .int 0 0] }, g, d, tk, os⟩) l2 ys := Heap.IsList.push hl2 _
    wp_walk using wpAny_pyIter_tuple hL1, wpAny_pyIter_list hL2
    exact ⟨_, rfl, h⟩
theorem call_zm {l1 l2 : Addr} {xs ys : Array Value} {Q : Value → Shared → Prop} (hl1 : s.heap.IsTuple l1 xs) (hl2 : s.heap.IsList l2 ys)
    (h : ∀ h', IsZip h' (s.heap.objs.size + 4) (s.heap.objs.size + 2) (s.heap.objs.size + 3) .none → IsPair h' (s.heap.objs.size + 2) (.ref s.heap.objs.size) (.ref (s.heap.objs.size + 1)) →
      IsPair h' (s.heap.objs.size + 3) .none .none → h'.IsTupleIter s.heap.objs.size l1 0 → h'.IsListIter (s.heap.objs.size + 1) l2 0 →
      (∀ c o, s.heap.get? c = some o → h'.get? c = some o) → Q (.ref (s.heap.objs.size + 4)) { s with heap := h' }) :
    wpAny (model prog w) A (call (.type "zip") [.ref l1, .ref l2]) Q E s := by
  refine callType_new F.called_zip (by decide) (F.typeCall_zip_2 _ _) (F.newCall_zip_2 _ _) (fun obj => F.args_object_init_3 obj _ _) F.entry_zip_new
    (meets_zm l1 l2 xs ys) ⟨hl1, hl2, ?_⟩
  have z1 : (zmH1 s.heap l1).objs.size = s.heap.objs.size + 1 := Heap.size_push ..
  have z2 : (zmH2 s.heap l1 l2).objs.size = s.heap.objs.size + 2 := by rw [Heap.size_push, z1]
  have z3 : (zmH3 s.heap l1 l2).objs.size = s.heap.objs.size + 3 := by rw [Heap.size_push, z2]
  have z4 : (zmH4 s.heap l1 l2).objs.size = s.heap.objs.size + 4 := by rw [Heap.size_push, z3]
  have up : ∀ {h : Heap} {o : Obj} {c : Addr} {u : Obj}, h.get? c = some u → (h.push o).get? c = some u := fun e => Heap.get?_push_of_some _ e
  have g5 : (zmH5 s.heap l1 l2).get? (zmH4 s.heap l1 l2).objs.size = some _ := Heap.get?_push_size _ rfl
  have g4 : (zmH5 s.heap l1 l2).get? (zmH3 s.heap l1 l2).objs.size = some _ := up (Heap.get?_push_size _ rfl)
  have g3 : (zmH5 s.heap l1 l2).get? (zmH2 s.heap l1 l2).objs.size = some _ := up (up (Heap.get?_push_size _ rfl))
  have g2 : (zmH5 s.heap l1 l2).get? (zmH1 s.heap l1).objs.size = some _ := up (up (up (Heap.get?_push_size _ rfl)))
  have g1 : (zmH5 s.heap l1 l2).get? s.heap.objs.size = some _ := up (up (up (up (Heap.get?_push_size _ rfl))))
  show _ ∧ _
  rw [z2, z3, z4] at g5
  rw [z1, z2] at g3
  rw [z3] at g4
  rw [z1] at g2
  rw [z4]
  exact ⟨⟨_, g5, rfl⟩, h _ g5 g3 g4 ⟨_, g1, rfl, rfl⟩ ⟨_, g2, rfl, rfl⟩ fun c o x => up (up (up (up (up x))))⟩
end
/-- the tuple at a and the list at b as they stand at each turn, the items in new pairs -/
def ItzM (K : PySem.W.Frag) (a b : Addr) : It :=
  ⟨fun i H => ∃ (xs ys : List V) (x y : V), SqT K H a xs ∧ SqL K H b ys ∧ xs[i]? = some x ∧ ys[i]? = some y,
    fun i H v H' => ∃ T x y, v = .ref T ∧ H T = none ∧ H' = upd H T (.tup [x, y]) ∧ (∀ xs, SqT K H a xs → xs[i]? = some x) ∧ ∀ ys, SqL K H b ys → ys[i]? = some y,
    fun i H => ∃ xs ys : List V, SqT K H a xs ∧ SqL K H b ys ∧ i ≤ xs.length ∧ i ≤ ys.length ∧ (xs.length = i ∨ ys.length = i)⟩
theorem nm2 {x p q : Nat} (h1 : x ≠ p) (h2 : x ≠ q) : x ∉ [p, q] := by simp [h1, h2]
theorem zsep {I a b : Nat} (h1 : a < I) (h2 : b < I) : ZipSep2 (I + 4) (I + 2) (I + 3) I (I + 1) [I, a] [I + 1, b] where
  TIz := Nat.ne_of_lt (by omega)
  TOz := Nat.ne_of_lt (by omega)
  TITO := Nat.ne_of_lt (by omega)
  TIi1 := Nat.ne_of_gt (by omega)
  mem1 := List.mem_cons_self ..
  zf1 := nm2 (by omega) (by omega)
  Tf1 := nm2 (by omega) (by omega)
  TIi2 := Nat.ne_of_gt (by omega)
  mem2 := List.mem_cons_self ..
  zf2 := nm2 (by omega) (by omega)
  Tf2 := nm2 (by omega) (by omega)
  sep1_2 := nm2 (by omega) (by omega)
  sep2_1 := nm2 (by omega) (by omega)
theorem turn_zipM {P : Program} {w : World} {K : PySem.W.Frag} {elts : List Expr} {kk : Nat} {tpos : Pos} {a b z TI TO i1 i2 : Addr} (D : ZipSep2 z TI TO i1 i2 [i1, a] [i2, b]) :
    Turn P w K (.Tuple elts kk tpos) (ItzM K a b) [z, TI, TO, i1, i2] z (fun i h => IsZip h z TI TO .none ∧ IsPair h TI (.ref i1) (.ref i2) ∧ (∃ x y, IsPair h TO x y) ∧ h.IsTupleIter i1 a i ∧ h.IsListIter i2 b i) where
  mem := by simp
  obj := fun i h st c hc => by
    obtain ⟨hz, hTI, ⟨x, y, hTO⟩, ⟨o1, e1, _, d1⟩, ⟨o2, e2, _, d2⟩⟩ := st
    have e' : c = z ∨ c = TI ∨ c = TO ∨ c = i1 ∨ c = i2 := by simpa using hc
    rcases e' with q | q | q | q | q
    · rw [q]; exact ⟨_, hz, fun v q => nomatch q⟩
    · rw [q]; exact ⟨_, hTI, fun v q => nomatch q⟩
    · rw [q]; exact ⟨_, hTO, fun v q => nomatch q⟩
    · rw [q]; exact ⟨o1, e1, fun v q => by rw [d1] at q; cases q⟩
    · rw [q]; exact ⟨o2, e2, fun v q => by rw [d2] at q; cases q⟩
  keep := fun i h h' st k => by
    obtain ⟨hz, hTI, ⟨x, y, hTO⟩, h1, h2⟩ := st
    exact ⟨k z (by simp) _ hz, k TI (by simp) _ hTI, ⟨x, y, k TO (by simp) _ hTO⟩, h1.at fun o q => k i1 (by simp) o q, h2.at fun o q => k i2 (by simp) o q⟩
  item := by
    intro X hP hw hK hc i pins s σ H E I hf st hg
    subst hP hw hK
    obtain ⟨hz, hTI, ⟨x0, y0, hTO⟩, h1, h2⟩ := st
    obtain ⟨xs, ys, x, y, hqx, hqy, hx, hy⟩ := hg
    obtain ⟨its, rv, p, _⟩ := I.tuple hqx
    obtain ⟨its2, rv2, p2, _⟩ := I.list hqy
    obtain ⟨u, hu, ru⟩ := rv.get hx
    obtain ⟨u2, hu2, ru2⟩ := rv2.get hy
    have hzl : z < s.heap.objs.size := Heap.lt_size hz
    have hh : X.A.in1.handled = none := I.ok.hd hc
    have ne1 : a ≠ i1 := fun e => by have := D.sep1_2; obtain ⟨o, ho, c1, _⟩ := h1; obtain ⟨o', ho', c2, _⟩ := (show s.heap.IsTuple a its.toArray from p); rw [e, ho] at ho'; cases ho'; rw [c1] at c2; exact absurd (Value.type.inj c2) (by decide)
    have ne2 : b ≠ i2 := fun e => by obtain ⟨o, ho, c1, _⟩ := h2; obtain ⟨o', ho', c2, _⟩ := p2.isList; rw [e, ho] at ho'; cases ho'; rw [c1] at c2; exact absurd (Value.type.inj c2) (by decide)
    have D1 := draws_tuple (prog := X.prog) (w := X.w) hh i1 a ne1 its.toArray
    have D2 := Draws.list (prog := X.prog) (w := X.w) hh i2 b ne2 its2.toArray
    have li : i < its.toArray.size := by have := (List.getElem?_eq_some_iff.mp hu).1; simpa using this
    have li2 : i < its2.toArray.size := by have := (List.getElem?_eq_some_iff.mp hu2).1; simpa using this
    refine wpAny_pyNext_zipD2_item D D1 D2 hz hTI hTO ⟨h1, p⟩ ⟨h2, p2.isList⟩ li li2 fun x1 x2 h' tk q1 q2 z' TO' st1 st2 hT hsz hk => ?_
    have eu : x1 = u := by rw [List.getElem?_toArray, hu] at q1; exact (Option.some.inj q1).symm
    have eu2 : x2 = u2 := by rw [List.getElem?_toArray, hu2] at q2; exact (Option.some.inj q2).symm
    subst eu eu2
    refine ⟨_, rfl, wpAny_letOwnedTupleGo_zip (s := { s with heap := h', toks := tk }) z' fun h'' z'' sb => ?_⟩
    have hT2 : h''.get? s.heap.objs.size = some { cls := .type "tuple", data := .seq #[x1, x2] } := (sb.2 _ (Nat.ne_of_gt hzl)).trans hT
    have new : ObjOk X.prog X.w (upd H s.heap.objs.size (.tup [x, y])) h'' s.heap.objs.size (.tup [x, y]) :=
      ⟨by show 2 ≤ sizeLine; decide, [x1, x2], .cons ru (.cons ru2 .nil), ⟨_, hT2, rfl, _, rfl⟩⟩
    have I1 : Inv X pins σ (upd H s.heap.objs.size (.tup [x, y])) { s with heap := h'', toks := tk } :=
      I.turnedNew (t' := tk) (ch := [z, TI, TO, i1, i2]) (fun c o hb q => (sb.2 c (fun q' => hb (by simp [q']))).trans (hk c o (fun q' => hb (by simp [q'])) (fun q' => hb (by simp [q'])) (fun q' => hb (by simp [q'])) (fun q' => hb (by simp [q'])) q)) hf (Nat.le_refl _) new
    refine ⟨.ref s.heap.objs.size, _, I1, rfl, ⟨_, x, y, rfl, I.hok.fresh (Nat.le_refl _), rfl, fun l hl => by rw [I.tuple_inj hl hqx]; exact hx, fun l hl => by rw [I.list_inj hl hqy]; exact hy⟩, ⟨z'', ?_, ⟨x1, x2, ?_⟩, ?_, ?_⟩, fun c hcm => ?_⟩
    · exact (sb.2 _ D.TIz).trans (hk _ _ D.TIz D.TITO D.TIi1 D.TIi2 hTI)
    · exact (sb.2 _ D.TOz).trans TO'
    · exact st1.1.at fun o q => (sb.2 _ (fun e => D.zi1 e.symm)).trans q
    · exact st2.1.at fun o q => (sb.2 _ (fun e => D.zi2 e.symm)).trans q
    · have hlt : c < s.heap.objs.size := by
        have e' : c = z ∨ c = TI ∨ c = TO ∨ c = i1 ∨ c = i2 := by simpa using hcm
        rcases e' with q | q | q | q | q
        · rw [q]; exact hzl
        · rw [q]; exact Heap.lt_size hTI
        · rw [q]; exact Heap.lt_size hTO
        · rw [q]; obtain ⟨_, e1, _⟩ := h1; exact Heap.lt_size e1
        · rw [q]; obtain ⟨_, e2, _⟩ := h2; exact Heap.lt_size e2
      rw [upd_ne (Nat.ne_of_lt hlt)]
      exact (hf c hcm).1
  done := by
    intro X hP hw hK hc i pins s σ H E I hf st hg
    subst hP hw hK
    obtain ⟨hz, hTI, ⟨x0, y0, hTO⟩, h1, h2⟩ := st
    obtain ⟨xs, ys, hqx, hqy, le1, le2, hend⟩ := hg
    obtain ⟨its, rv, p, _⟩ := I.tuple hqx
    obtain ⟨its2, rv2, p2, _⟩ := I.list hqy
    have l1 := rv.length
    have l2 := rv2.length
    have hh : X.A.in1.handled = none := I.ok.hd hc
    have ne1 : a ≠ i1 := fun e => by obtain ⟨o, ho, c1, _⟩ := h1; obtain ⟨o', ho', c2, _⟩ := (show s.heap.IsTuple a its.toArray from p); rw [e, ho] at ho'; cases ho'; rw [c1] at c2; exact absurd (Value.type.inj c2) (by decide)
    have ne2 : b ≠ i2 := fun e => by obtain ⟨o, ho, c1, _⟩ := h2; obtain ⟨o', ho', c2, _⟩ := p2.isList; rw [e, ho] at ho'; cases ho'; rw [c1] at c2; exact absurd (Value.type.inj c2) (by decide)
    exact wpAny_pyNext_zipD2_end D (draws_tuple hh i1 a ne1 its.toArray) (Draws.list hh i2 b ne2 its2.toArray) hz hTI hTO ⟨h1, p⟩ ⟨h2, p2.isList⟩ (by simp; omega) (by simp; omega) (by simp; omega)
      fun h' tk hk => ⟨rfl, I.turnedL (t' := tk) (ch := [z, TI, TO, i1, i2]) (fun c o hb q =>
        hk c o (fun q' => hb (by simp [q'])) (fun q' => hb (by simp [q'])) (fun q' => hb (by simp [q'])) (fun q' => hb (by simp [q'])) q) hf⟩
  self := fun A i s Q E st h => wpAny_pyIter_zip st.1 h
def iZipM (K : PySem.W.Frag) (ta : TA) : TI := fun σ H R => ta σ H fun vs H1 => ∃ a b xs ys, vs = [.ref a, .ref b] ∧ SqT K H1 a xs ∧ SqL K H1 b ys ∧ R (ItzM K a b) H1
theorem pi_zipM {X : Cx} {e e2 : Expr} {ta : TA} {p pos tpos : Pos} {elts : List Expr} {kk : Nat} (hg : Gl X "zip") (hm : X.mg "zip" = none) (ha : PA X [e, e2] ta)
    (hs : starEach [e, e2] X.env = (false, eval e X.env) :: starEach [e2] X.env := by rfl) (hpl : (backTo pos (starEach [e2] X.env)).any (·.1) = false := by rfl) :
    PI X (.Tuple elts kk tpos) (.Call (.Name "zip" p) [e, e2] [] pos) (iZipM X.K ta) := by
  refine ⟨fun pins s σ H R I h => ?_⟩
  refine Call_ (ld_blt I hg hm PyProof.Rows.boot_zip (PyProof.Rows.callWith_type1 (thn (ha.run pos pins s σ H _ I h) fun us s1 ⟨vs, H1, I1, r1, q1⟩ => ?_) hs hpl))
  obtain ⟨a, b, xs, ys, ex, hqx, hqy, q⟩ := q1
  subst ex
  cases r1 with
  | cons r rr =>
    cases rr with
    | cons r' rr =>
      cases rr
      cases r
      cases r'
      have fresh5 : ∀ c, c ∈ [s1.heap.objs.size + 4, s1.heap.objs.size + 2, s1.heap.objs.size + 3, s1.heap.objs.size, s1.heap.objs.size + 1] → FpOk X pins H1 c := fun c hcm => by
        have hle : s1.heap.objs.size ≤ c := by
          have e' : c = s1.heap.objs.size + 4 ∨ c = s1.heap.objs.size + 2 ∨ c = s1.heap.objs.size + 3 ∨ c = s1.heap.objs.size ∨ c = s1.heap.objs.size + 1 := by simpa using hcm
          rcases e' with z | z | z | z | z <;> rw [z] <;> first | exact Nat.le_add_right _ _ | exact Nat.le_refl _
        exact I1.fpOk hle (I1.hok.fresh hle)
      obtain ⟨its, rv, p1, _⟩ := I1.tuple hqx
      obtain ⟨its2, rv2, p2, _⟩ := I1.list hqy
      obtain ⟨o1, ho1, _⟩ := id p1
      refine call_zm (show s1.heap.IsTuple a its.toArray from p1) p2.isList fun h' hz hTI hTO h1 h2 hk => wpAny_pyIter_zip hz ?_
      have I2 : Inv X pins σ H1 { s1 with heap := h' } := I1.kept (t' := s1.toks) hk
      exact ⟨s1.heap.objs.size + 4, [s1.heap.objs.size + 4, s1.heap.objs.size + 2, s1.heap.objs.size + 3, s1.heap.objs.size, s1.heap.objs.size + 1], _, _, H1, rfl, I2, turn_zipM (zsep (Heap.lt_size ho1) p2.lt), ⟨hz, hTI, ⟨_, _, hTO⟩, h1, h2⟩, fresh5, q⟩
/-- .. by data -/
def qiZipM (qa : DTA) : DTI := fun DW p M R => qa DW p M fun ds M1 => match ds with
  | [x, y] => match tupAt x, lstAt M1 y with
    | some es, some (fs, Sty) => R (zipD es fs) Sty M1
    | _, _ => False
  | _ => False
section
variable {X : Cx} {W : WX} {e e2 : Expr} {ta : TA} {qa : DTA} {p pos tpos : Pos} {elts : List Expr} {kk : Nat}
theorem qi_zipM (hg : Gl X "zip") (hm : X.mg "zip" = none) (ha : QA X W [e, e2] ta qa)
    (hs : starEach [e, e2] X.env = (false, eval e X.env) :: starEach [e2] X.env := by rfl) (hpl : (backTo pos (starEach [e2] X.env)).any (·.1) = false := by rfl) :
    QI X W (.Tuple elts kk tpos) (.Call (.Name "zip" p) [e, e2] [] pos) (iZipM X.K ta) (qiZipM qa) :=
  ⟨pi_zipM hg hm ha.pe hs hpl, fun DW G H p M s R R' hw S h k => ha.rf DW G H p M s _ _ hw S h fun G1 H1 M1 ds vs e1 S1 r1 h1 => by
    unfold qiZipM at h
    split at h1
    · next x y =>
      obtain ⟨v, u, rfl, r2, r3⟩ := repL2 r1
      split at h1
      · next es fs Sty el1 el2 =>
        obtain ⟨a, us, rfl, c1, c2, len1⟩ := tupAt_of r2 el1
        obtain ⟨hst, b, rfl, len2, lk⟩ := lstAt_of S1 r3 el2
        obtain ⟨ws, w1, _⟩ := lk G1 H1 p M1 s (Same.refl _) S1 hst
        refine ⟨a, b, us, ws, rfl, same_t S1.same c1, w1, k G1 H1 M1 _ _ _ e1 S1 ⟨fun G' H p M s i e S st hi => ?_, fun G' H p M s i x H' e S st y d hd => ?_, fun G' H p M s e S st => ?_⟩ (by rw [zipD_length]; omega) h1⟩
        · obtain ⟨ws, d1, d2⟩ := lk G' H p M s e S st
          rw [zipD_length] at hi
          obtain ⟨x, hx⟩ := get_lt (xs := us) (i := i) (by rw [c2.length]; omega)
          obtain ⟨y, hy⟩ := get_lt (xs := ws) (i := i) (by rw [d2.length]; omega)
          exact ⟨us, ws, x, y, same_t (e.trans S.same) c1, d1, hx, hy⟩
        · obtain ⟨ws, d1, d2⟩ := lk G' H p M s e S st
          obtain ⟨T, x', y', rfl, hT, rfl, y1, y2⟩ := y
          rw [zipD_get] at hd
          split at hd
          · next d' d'' ed1 ed2 =>
            cases hd
            obtain ⟨w, w1, w2⟩ := c2.get ed1
            rw [y1 us (same_t (e.trans S.same) c1)] at w1; cases w1
            obtain ⟨w, w1, w3⟩ := d2.get ed2
            rw [y2 ws d1] at w1; cases w1
            obtain ⟨e2, S2⟩ := S.made (o := .tup [x', y']) hT
            exact ⟨_, e2, S2, T, _, rfl, upd_same, RepL.mono e2 _ _ (RepL.cons (Rep.mono e _ _ w2) (RepL.cons w3 rfl)), sz1000 (by simp)⟩
          · cases hd
        · obtain ⟨ws, d1, d2⟩ := lk G' H p M s e S st
          refine ⟨us, ws, same_t (e.trans S.same) c1, d1, ?_⟩
          rw [zipD_length, c2.length, d2.length]; omega
      · exact h1.elim
    · exact h1.elim⟩
end
end DL
namespace DL
open PySem L2 Tx20 Tx21
def strEq : D → Str → Bool
  | .str y, z => decide (y = z)
  | _, _ => false
/-- (word, whole numbers within bounds) -/
def isB (w : Str) (bs : List (Int × Int)) : D → Bool
  | .tup (a :: r) => decide (r.length = bs.length) && (strEq a w && (r.zip bs).all fun p => wholeD p.2.1 p.2.2 p.1)
  | _ => false
def midB (x : D) : Bool := (isB (lit "hose") [(1, 20), (-60, 60)] x || isB (lit "pump") [(0, 120), (1, 5000)] x) || isB (lit "leak") [(0, 1000)] x
def nozB (x : D) : Bool := isB (lit "nozzle") [(0, 2000), (0, 100)] x
end DL
namespace DL
open PySem L2 Tx20 Tx21
end DL
namespace DL
open PySem L2 Tx20 Tx21
inductive LT where
  | noz (ms : List D) (z : D)
  | frk (ms : List D) (a b : LT)
def LT.d : LT → D
  | .noz ms z => .tup (ms ++ [z])
  | .frk ms a b => .tup (ms ++ [.tup [.str (lit "fork"), a.d, b.d]])
def MidsOk (ms : List D) : Prop := (∀ m ∈ ms, midB m = true) ∧ ms.length ≤ 7
def LT.ok : Nat → LT → Prop
  | _, .noz ms z => MidsOk ms ∧ nozB z = true
  | 0, .frk _ _ _ => False
  | f + 1, .frk ms a b => MidsOk ms ∧ a.ok f ∧ b.ok f
end DL
set_option maxHeartbeats 2000000
namespace DL
open PySem PySem.Spec PyProof.Rows L2
end DL
namespace DL
open PySem L2
end DL
namespace DL
open PySem L2 Tx20 Tx21
@[simp] theorem z_isX {a : Addr} {d : Option Addr} {b : Bool} {c : D} {ns : List Str} {ys : List D} {M : Mst} {Q : DK} : dIsX a d b c [.exc a d ns ys, c] M Q = Q (.bl b) M :=
  propext ⟨fun ⟨_, _, e, h⟩ => h, fun h => ⟨_, _, rfl, h⟩⟩
end DL
namespace DL
open PySem L2 Tx20 Tx21
def wD : Option LT → D
  | none => .non
  | some t => t.d
end DL
namespace DL
open PySem L2 Tx20 Tx21
def qLGround (c_Ground : Addr) (sp_Ground___init__ : DSp) (sp__law_names : DSp) (sp__law_take : DSp) : DTS :=
  (qSeq (qAsg (qCall sp__law_names [] (qCons (qVar 0) (qCons (qC (.int 12)) qNil))) (gNameD 2))
  (qSeq (qAsg (qOp (dAdd false) (qC (.int 1)) (qCall sp__law_take [] (qCons (qVar 0) (qCons (qVar 1) qNil)))) (gNameD 3))
  (qSeq (qAsg (qCB dTupX (qCons (qLc false (qiAny (qVar 2)) (gNameD 5) qYes (qTup (qCons (qVar 5) (qCons (qOp (dAdd false) (qC (.int 1)) (qCall sp__law_take [] (qCons (qVar 0) (qCons (qC (.int 4)) qNil)))) qNil))) [5]) qNil)) (gNameD 4))
  (qRet (qFrzE (qMake c_Ground sp_Ground___init__ [] (qCons (qVar 4) (qCons (qTup qNil) (qCons (qCB dTupX (qCons (qStep false (qSl false (qVar 2) qNoPart (qPart (qVar 3))) qNoPart qNoPart (qPart (qOp (dInt0 fun i j => i - j) (qC (.int 1)) (qOp (dInt CMul fun i j => i * j) (qC (.int 2)) (qCall sp__law_take [] (qCons (qVar 0) (qCons (qC (.int 2)) qNil))))))) qNil)) qNil)))))))))
def spLGround (c : Addr) : DSp := fun ds M Q _ => ∃ (b : Addr) (m : Nat), ds = [.ref b, .int (m : Int)] ∧ M b = some .bag ∧ 1 ≤ m ∧ m ≤ 12 ∧ ∀ rows ss, GrOk rows ss → ss ≠ [] → Q (.ins c FG (grD rows ss)) M
theorem rows_of {zs : List Str} {ys : List D} (h : All2 (fun d y => ∃ (z : Str) (r : Int), d = .str z ∧ y = plD (z, r) ∧ 1 ≤ r ∧ r ≤ 4) (zs.map D.str) ys) : ∃ rows : List Row_, ys = rows.map plD ∧ rows.map (·.1) = zs ∧ ∀ r ∈ rows, 1 ≤ r.2 ∧ r.2 ≤ 4 := by
  induction zs generalizing ys with
  | nil => cases h; exact ⟨[], rfl, rfl, fun _ h => by cases h⟩
  | cons z zs ih =>
    rw [List.map_cons] at h
    cases h with
    | cons h t =>
      obtain ⟨w, r, e, rfl, r1, r2⟩ := h
      injection e with e
      subst e
      obtain ⟨rows, rfl, e2, a⟩ := ih t
      exact ⟨(z, r) :: rows, rfl, by simp [e2], fun x hx => by
        rcases List.mem_cons.mp hx with rfl | hx
        · exact ⟨r1, r2⟩
        · exact a x hx⟩
theorem lground_ok (c : Addr) (ds : List D) (M : Mst) (Q : DK) (Ed : DX → Mst → Prop) (h : upSp (spLGround c) ds M Q Ed) : qLGround c (spGround0 c) spLNames spTake (fun x _ M => Ed x M) (retE Q) (startD ["_law_bag_here", "_law_most", "_law_names_here", "_law_many_here", "_law_places", "_law_name"] ds) M := by
  obtain ⟨Q0, E0, ⟨b, m, rfl, hb, m1, m2, k0⟩, kq, _⟩ := h
  have k : ∀ rows ss, GrOk rows ss → ss ≠ [] → Q (.ins c FG (grD rows ss)) M := fun rows ss g e => kq _ _ _ (Sub.refl _) (k0 rows ss g e)
  show qLGround _ _ _ _ _ _ [some (.ref b), some (.int (m : Int)), none, none, none, none] M
  simp only [qLGround, qMake, qFrzE, qSeq, qAsg, qTup, qCons, qNil, qOp, qUn, qC, qCall, qVar, qLst, newL_f, qIfS, qTB, qNext, qRet, qDrop, qFor, qCB, qAug, qSl, qPart, qNoPart, gNameD, gSub_eq, dInt_i, dInt0_i, dAdd_i, dCmpI_i, List.set_cons_zero, List.set_cons_succ, List.getElem?_cons_zero, List.getElem?_cons_succ, List.append_nil, z_l0, z_l1, z_l2, z_l3, z_l4, z_l5, z_l6, z_l7, z_l8, z_l9, z_l19, z_l24, z_l25, true_and]
  refine ⟨b, 12, rfl, hb, by decide, fun zs zl nd nm => ?_⟩
  refine take_call hb (by omega) (by omega) fun t t0 t1 => ?_
  obtain ⟨k1, hk1⟩ : ∃ k1 : Nat, 1 + t = (k1 : Int) := ⟨(1 + t).toNat, by omega⟩
  simp only [qLc, qiAny, qSeq, qAsg, qTup, qCons, qNil, qOp, qUn, qC, qCall, qVar, qLst, newL_f, qIfS, qTB, qNext, qRet, qDrop, qFor, qCB, qAug, qSl, qPart, qNoPart, gNameD, gSub_eq, dInt_i, dInt0_i, dAdd_i, dCmpI_i, List.set_cons_zero, List.set_cons_succ, List.getElem?_cons_zero, List.getElem?_cons_succ, List.append_nil, z_l0, z_l1, z_l2, z_l3, z_l4, z_l5, z_l6, z_l7, z_l8, z_l9, z_l19, z_l24, z_l25, true_and, hk1]
  intro a ha
  refine lcR ha (fun _ => trivial) (by simp; omega) (fun d y => ∃ (z : Str) (r : Int), d = .str z ∧ y = plD (z, r) ∧ 1 ≤ r ∧ r ≤ 4) (fun d hd M2 R2 S hR2 => ?_) fun ys hys => ?_
  · obtain ⟨z, hz, rfl⟩ := List.mem_map.mp hd
    simp only [wipeD, qSeq, qAsg, qTup, qCons, qNil, qOp, qUn, qC, qCall, qVar, qLst, newL_f, qIfS, qTB, qNext, qRet, qDrop, qFor, qCB, qAug, qSl, qPart, qNoPart, gNameD, gSub_eq, dInt_i, dInt0_i, dAdd_i, dCmpI_i, List.set_cons_zero, List.set_cons_succ, List.getElem?_cons_zero, List.getElem?_cons_succ, List.append_nil, z_l0, z_l1, z_l2, z_l3, z_l4, z_l5, z_l6, z_l7, z_l8, z_l9, z_l19, z_l24, z_l25, true_and]
    refine take_call (S _ _ hb) (by decide) (by decide) fun y y0 y1 => hR2 _ ⟨z, 1 + y, rfl, rfl, by omega, by omega⟩
  obtain ⟨rows, rfl, e1, hr⟩ := rows_of hys
  simp only [dTupX, res_lst, qSeq, qAsg, qTup, qCons, qNil, qOp, qUn, qC, qCall, qVar, qLst, newL_f, qIfS, qTB, qNext, qRet, qDrop, qFor, qCB, qAug, qSl, qPart, qNoPart, gNameD, gSub_eq, dInt_i, dInt0_i, dAdd_i, dCmpI_i, List.set_cons_zero, List.set_cons_succ, List.getElem?_cons_zero, List.getElem?_cons_succ, List.append_nil, z_l0, z_l1, z_l2, z_l3, z_l4, z_l5, z_l6, z_l7, z_l8, z_l9, z_l19, z_l24, z_l25, true_and, qStep]
  have fin : ∀ ss : List Str, ss.length = k1 → ss.Nodup → (∀ z ∈ ss, z ∈ zs) → ∀ a, M a = none → spGround0 c [.ref a, .xtp (rows.map plD), .tup [], .xtp (ss.map .str)] (put M a (.ins c [])) (fun d M2 => d = .non ∧ (match M2 a with
      | some (.lst ds) => Q (.lst ds) (del M2 a)
      | some (.dK kvs) => Q (.dct (kvs.map (·.1)) (kvs.map (·.2))) (del M2 a)
      | some (.ins C fs) => Q (.ins C (fs.map (·.1)) (fs.map (·.2))) (del M2 a)
      | _ => False)) fun z M3 => Ed z M3 := fun ss sl sn si a ha => by
    have rl : rows.length = 12 := by rw [← zl, ← e1, List.length_map]
    have g : GrOk rows ss := ⟨fun r hr' => ⟨nm _ (by rw [← e1]; exact List.mem_map_of_mem hr'), hr r hr'⟩, by rw [e1]; exact nd, by omega, by omega, fun z hz => by rw [e1]; exact si z hz, sn, by omega⟩
    refine ⟨a, rows, ss, rfl, put_same, g, rfl, ?_⟩
    rw [put_put]
    simp only [put_same, del_put ha]
    exact k rows ss g (fun e => by rw [e] at sl; simp at sl; omega)
  rw [sl_to]
  simp only [newL_f]
  refine take_call hb (by decide) (by decide) fun u u0 u1 => ⟨.inr ⟨by omega, by omega⟩, ?_⟩
  have eT : (zs.map D.str).take k1 = (zs.take k1).map D.str := by rw [List.map_take]
  have hu : u = 0 ∨ u = 1 := by omega
  rcases hu with rfl | rfl
  · simp only [dStep, res_lst, stepD, dInt0_i]
    rw [if_pos (by decide)]; simp only [newL_f, res_lst]; rw [eT]
    exact fin _ (by rw [List.length_take, zl]; omega) (nd.sublist (List.take_sublist ..)) fun z hz => List.mem_of_mem_take hz
  · simp only [dStep, res_lst, stepD, dInt0_i]
    rw [if_neg (by decide), if_pos (by decide)]; simp only [newL_f, res_lst]; rw [eT, ← List.map_reverse]
    exact fin _ (by rw [List.length_reverse, List.length_take, zl]; omega) (((List.reverse_perm _).nodup_iff.mpr (nd.sublist (List.take_sublist ..)))) fun z hz => List.mem_of_mem_take (List.mem_reverse.mp hz)
end DL
namespace DL
open PySem L2 Tx20 Tx21
theorem gr3 {rows : List Row_} {ss : List Str} : (grD rows ss)[3]? = some (.xtp (ss.map .str)) := rfl
end DL
set_option maxHeartbeats 1000000
namespace DL
open PySem PySem.Spec PyProof.Rows L2
/-- a promise of a call without arguments -/
abbrev DPf := Mst → DK → (DX → Mst → Prop) → Prop
section
variable {X : Cx} {pins : List (Addr × Obj)} {σ : L2.St} {H : Hp} {s : Shared}
abbrev cxG (X : Cx) (s : Shared) (H : Hp) (N : List Str) (q : Str) (sg : Scope) (g : Addr) (cd : Value) : Cx := cxOf C8.CX0 X.prog X.w X.K X.mg X.base N q sg g cd X.A X.stack s H C8.E0
end
/-- what the lambda's run makes of its promise -/
def LamOk (K : PySem.W.Frag) (vs : List V) (ds : List D) (tl : XK → Hp → VK → Prop) (pf : DPf) : Prop := ∀ (G1 H1 : Hp) (M1 : Mst) (Qd : DK) (Ed : DX → Mst → Prop) (Qv : VK) (Ev : XK), RepL K G1 ds vs → Same G1 H1 → MemOk K G1 H1 M1 → pf M1 Qd Ed →
  (∀ G' H' v d M', Same G1 G' → Same G' H' → Rep K G' d v → MemOk K G' H' M' → Qd d M' → Qv v H') →
  (∀ G' H' x cls dx M', Same G1 G' → Same G' H' → RepX K G' x cls dx → MemOk K G' H' M' → Ed x M' → Ev cls dx H') → tl Ev H1 Qv
def tAct (c' f : Addr) (q : Str) (tl : XK → Hp → VK → Prop) (W : WX) : TE := fun σZ HZ Q => σZ[0]? = some (some (.ref f)) ∧ HZ c' = some (LamX.CodeO c' q) ∧ tl (WE W σZ) HZ Q
/-- a def that is handed a lambda of the promise pf and keeps R pf -/
def GivesL (X : Cx) (N : List Str) (x : Str) (sg : Scope) (g : Addr) (cd : Value) (bg : List Stmt) (a q : Str) (R : DPf → Mst → DK → Prop) : Prop :=
  ∀ (f c' : Addr) (s : Shared) (G H : Hp) (M : Mst) (vs : List V) (ds : List D) (tl : XK → Hp → VK → Prop) (pf : DPf) (Q : DK) (Q' : VK),
    (∀ (W : WX) (pn : List (Addr × Obj)) (xe : Value → Shared → Prop) (p1 p2 : Pos), Takes ((cxG X s H N x sg g cd).tr pn xe) W → PE ((cxG X s H N x sg g cd).tr pn xe) (.Call (.Name a p1) [] [] p2) (tAct c' f q tl W)) →
    G c' = some (LamX.CodeO c' q) → Same G H → MemOk X.K G H M → RepL X.K G ds vs → LamOk X.K vs ds tl pf → R pf M Q →
    (∀ G' H' v d M', Same G G' → Same G' H' → Rep X.K G' d v → MemOk X.K G' H' M' → Q d M' → Q' v H') →
    ∃ t, PSs (cxG X s H N x sg g cd).nox bg t ∧ t { nx := fun _ H' => Q' .non H', rt := Q' } (L2.start N [.ref f]) H
end DL
set_option maxHeartbeats 1000000
namespace DL
open PySem PySem.Spec PyProof.Rows L2
theorem as_ints {K : PySem.W.Frag} {G H : Hp} {p : Rho} {M : Mst} {s : L2.St} {x : D} {v : V} {es : List D} {ns : List Int} (S : Sim K G H p M s) (r : Rep K G x v) (h : res M x = .lst es) (e : intsD es = some ns) : ∃ a, v = .ref a ∧ SqL K H a (ns.map V.int) := by
  obtain ⟨b, us, rfl, c1, c2, c3⟩ := as_lst S r h
  rw [intsD_of c2 e] at c1
  exact ⟨b, rfl, .inl (.inl c1)⟩
end DL
namespace DL
open PySem L2
def LamDef (P : Program) (w : World) (K : PySem.W.Frag) (mg : Str → Option Value) (base : Heap) (k : Nat) (x : Str) (N : List Str) (sg : Scope) (g : Addr) (bg : List Stmt) (a : Str) (R : DPf → Mst → DK → Prop) : Prop :=
  ∀ (X : Cx), X.prog = P → X.w = w → X.K = K → X.mg = mg → X.base = base → Room k X.A → ∀ (cd : Value) (q : Str), GivesL X N x sg g cd bg a q R
theorem LamDef.mono {P : Program} {w : World} {K : PySem.W.Frag} {mg : Str → Option Value} {base : Heap} {j k : Nat} {x : Str} {N : List Str} {sg : Scope} {g : Addr} {bg : List Stmt} {a : Str} {R : DPf → Mst → DK → Prop} (h : LamDef P w K mg base j x N sg g bg a R) (hj : j ≤ k) : LamDef P w K mg base k x N sg g bg a R :=
  fun X e1 e2 e3 e4 e5 hr => h X e1 e2 e3 e4 e5 (hr.mono hj)
end DL
set_option maxHeartbeats 2000000
namespace DL
open PySem PySem.Spec PyProof.Rows L2
theorem RepL.erase {K : PySem.W.Frag} {G : Hp} {ds : List D} {vs : List V} (n : Nat) (r : RepL K G ds vs) : RepL K G (ds.eraseIdx n) (vs.eraseIdx n) := by
  rw [List.eraseIdx_eq_take_drop_succ, List.eraseIdx_eq_take_drop_succ]
  exact RepL.append (RepL.take n r) (RepL.drop (n + 1) r)
end DL
set_option maxHeartbeats 2000000
namespace DL
open PySem PySem.Spec PyProof.Rows L2
theorem Sim.back {K : PySem.W.Frag} {G G' H H' : Hp} {p : Rho} {M M' : Mst} {s : L2.St} (S : Sim K G H p M s) (e : Same G G') (e2 : Same G' H') (hm : MemOk K G' H' M') : Sim K G' H' p M' s :=
  ⟨e2, fun i d hd => by
    obtain ⟨v, h1, h2⟩ := S.env i d hd
    exact ⟨v, h1, Rep.mono e _ _ h2⟩, S.len, hm⟩
def qJs : List DTE → Str → DTE
  | [], acc => fun _ _ M Q => Q (.str acc) M
  | q :: qs, acc => fun DW p M Q => q DW p M fun x M1 => match x with
    | .str y => (acc ++ y).length ≤ sizeLine ∧ qJs qs (acc ++ y) DW p M1 Q
    | _ => False
inductive QJ (X : Cx) (W : WX) : List Expr → List TE → List DTE → Prop where
  | nil : QJ X W [] [] []
  | cons {e : Expr} {t : TE} {q : DTE} {es : List Expr} {ts : List TE} {qs : List DTE} (h : QE X W e t q) (r : QJ X W es ts qs) : QJ X W (e :: es) (t :: ts) (q :: qs)
theorem QJ.rf {X : Cx} {W : WX} {es : List Expr} {ts : List TE} {qs : List DTE} (h : QJ X W es ts qs) : ∀ (acc : Str), acc.length ≤ sizeLine → PyData.strOk acc = true → RefE X.K W (fun σ H Q => tJs ts acc σ H fun out H1 => Q (.str out) H1) (qJs qs acc) := by
  induction h with
  | nil => exact fun acc h1 h2 DW G H p M s Q Q' hw S hq k => k G H M (.str acc) _ (Same.refl _) S ⟨rfl, h1, h2⟩ hq
  | cons h _ ih =>
    intro acc h1 h2 DW G H p M s Q Q' hw S hq k
    refine h.rf DW G H p M s _ _ hw S hq fun G1 H1 M1 d v e1 S1 r1 z => ?_
    cases d <;> first | exact z.elim | skip
    obtain ⟨rfl, z2⟩ := r1
    refine ⟨_, rfl, z.1, ?_⟩
    exact ih _ z.1 (strOk_append h2 z2.2) DW G1 H1 p M1 s Q Q' (WLink.mono e1 hw) S1 z.2 fun G2 H2 M2 d v e2 S2 r2 z2 => k G2 H2 M2 d v (e1.trans e2) S2 r2 z2
end DL
set_option maxHeartbeats 2000000
namespace DL
open PySem PySem.Spec PyProof.Rows L2
end DL
set_option maxHeartbeats 2000000
namespace DL
open PySem PySem.Spec PyProof.Rows L2
def qPairs : List (DTE × DTE) → DWt → Rho → Mst → (List (D × D) → Mst → Prop) → Prop
  | [], _, _, M, Q => Q [] M
  | (qk, qv) :: r, DW, p, M, Q => qk DW p M fun k M1 => qv DW p M1 fun v M2 => qPairs r DW p M2 fun ps M3 => Q ((k, v) :: ps) M3
inductive QPs (X : Cx) (W : WX) (pos : Pos) : List (Option Expr) → List Expr → List (TE × TE) → List (DTE × DTE) → Prop where
  | nil : QPs X W pos [] [] [] []
  | cons {k v : Expr} {tk tv : TE} {qk qv : DTE} {ks : List (Option Expr)} {vs : List Expr} {ts : List (TE × TE)} {rs : List (DTE × DTE)} (hk : QE X W k tk qk) (hv : QE X W v tv qv) (r : QPs X W pos ks vs ts rs) : QPs X W pos (some k :: ks) (v :: vs) ((tk, tv) :: ts) ((qk, qv) :: rs)
theorem QPs.rf {X : Cx} {W : WX} {pos : Pos} {ks : List (Option Expr)} {vs : List Expr} {ts : List (TE × TE)} {rs : List (DTE × DTE)} (h : QPs X W pos ks vs ts rs) : ∀ DW G H p M s (Q : List (D × D) → Mst → Prop) (Q' : List (V × V) → Hp → Prop), WLink X.K G DW W → Sim X.K G H p M s → qPairs rs DW p M Q →
    (∀ G' H' M' ds us, Same G G' → Sim X.K G' H' p M' s → RepL X.K G' (ds.map (·.1)) (us.map (·.1)) → RepL X.K G' (ds.map (·.2)) (us.map (·.2)) → Q ds M' → Q' us H') → tPairs ts s H Q' := by
  induction h with
  | nil => exact fun DW G H p M s Q Q' hw S hq k => k G H M [] [] (Same.refl _) S rfl rfl hq
  | cons hk hv _ ih =>
    intro DW G H p M s Q Q' hw S hq k
    refine hk.rf DW G H p M s _ _ hw S hq fun G1 H1 M1 d v e1 S1 r1 h1 => ?_
    refine hv.rf DW G1 H1 p M1 s _ _ (hw.mono e1) S1 h1 fun G2 H2 M2 d2 v2 e2 S2 r2 h2 => ?_
    refine ih DW G2 H2 p M2 s _ _ (hw.mono (e1.trans e2)) S2 h2 fun G3 H3 M3 ds us e3 S3 r3 r4 h3 => ?_
    exact k G3 H3 M3 ((d, d2) :: ds) ((v, v2) :: us) (e1.trans (e2.trans e3)) S3 (RepL.cons (Rep.mono (e2.trans e3) _ _ r1) r3) (RepL.cons (Rep.mono e3 _ _ r2) r4) h3
end DL
namespace DL
open PySem PySem.Spec PyProof.Rows L2
theorem reads_ns {h : Heap} : ∀ {vs : List Value} {ns : List Int}, IntsAre vs ns → ReadsAll h vs (ns.map PyData.int) []
  | _, _, .nil => .nil
  | _, _, .cons n t r => ReadsAll.cons (as := []) (bs := []) (.int n t) (reads_ns r)
theorem alike_ns (ns : List Int) : PySem.W.AlikeAll (ns.map PyData.int) := by
  refine ⟨fun x hx y hy => ?_, fun x hx => ?_⟩
  · obtain ⟨i, _, rfl⟩ := List.mem_map.mp hx
    obtain ⟨j, _, rfl⟩ := List.mem_map.mp hy
    rfl
  · obtain ⟨i, _, rfl⟩ := List.mem_map.mp hx
    exact fun e => nomatch e
theorem deep_ns (ns : List Int) : PyData.depthAll (ns.map PyData.int) = 0 := by
  induction ns with
  | nil => rfl
  | cons n ns ih => show max 0 (PyData.depthAll (ns.map PyData.int)) = 0; rw [ih]; rfl
theorem most_fold (n : Int) : ∀ ns : List Int, ns.foldl max n ∈ n :: ns ∧ ∀ y ∈ n :: ns, y ≤ ns.foldl max n := by
  intro ns
  induction ns generalizing n with
  | nil => exact ⟨by simp, fun y hy => by simp at hy; subst hy; exact Int.le_refl _⟩
  | cons m ns ih =>
    obtain ⟨h1, h2⟩ := ih (max n m)
    refine ⟨?_, fun y hy => ?_⟩
    · rcases List.mem_cons.mp h1 with e | e
      · rw [List.foldl_cons, e]
        rcases Int.le_total n m with q | q
        · rw [Int.max_eq_right q]; simp
        · rw [Int.max_eq_left q]; simp
      · rw [List.foldl_cons]; exact List.mem_cons_of_mem _ (List.mem_cons_of_mem _ e)
    · rw [List.foldl_cons]
      have q := h2 (max n m) (by simp)
      rcases List.mem_cons.mp hy with rfl | hy
      · omega
      rcases List.mem_cons.mp hy with rfl | hy
      · omega
      · exact h2 y (List.mem_cons_of_mem _ hy)
/-- min(xs, default=d) (low) and max(xs, default=d) of a list of whole numbers -/
def bound (low : Bool) (m y : Int) : Prop := if low then m ≤ y else y ≤ m
def rBest (K : PySem.W.Frag) (low : Bool) : List V → List V → Hp → VK → Prop := fun vs zs H Q => ∃ (a : Addr) (ns : List Int) (d : V), vs = [V.ref a] ∧ zs = [d] ∧ SqL K H a (ns.map V.int) ∧ (ns = [] → Q d H) ∧ ∀ m ∈ ns, (∀ y ∈ ns, bound low m y) → Q (.int m) H
section
variable {X : Cx}
theorem cr_maxD {k : Nat} (hr : Room k X.A) : CallRK X (.builtin "max") [Str.ofString "default"] (rBest X.K false) := by
  intro pins s σ H vs zs us ws Q I r rz h
  obtain ⟨a, ns, d, rfl, rfl, hs, q0, q1⟩ := h
  obtain ⟨its, rv, hl, _⟩ := I.list hs
  rw [Vals.ref1 r]
  obtain ⟨u, rfl, e1⟩ := vals1 rz
  refine PySem.W.max_list_default hr.hd hl.isList (reads_ns rv.ints) (alike_ns ns) (by rw [deep_ns]; have := hr.un; omega) (fun e h' tk hk => ?_) fun y ys i v h' tk bs e hi rr hk => ?_
  · exact ⟨d, H, I.kept hk, e1, q0 (List.map_eq_nil_iff.mp e)⟩
  · cases ns with
    | nil => cases e
    | cons n ns =>
      obtain ⟨rfl, rfl⟩ := List.cons.inj e
      rw [PySem.W.maxD_ints] at rr
      cases rr with
      | int i t => exact ⟨.int _, H, I.kept hk, ⟨_, rfl⟩, q1 _ (most_fold n ns).1 (most_fold n ns).2⟩
def qBest (low : Bool) (qa qk : DTA) : DTE := fun DW p M Q => qa DW p M fun ds M1 => qk DW p M1 fun zs M2 => match ds, zs with
  | [x], [d] => match res M2 x with
    | .lst es => match intsD es with | some ns => (ns = [] → Q d M2) ∧ ∀ m ∈ ns, (∀ y ∈ ns, bound low m y) → Q (.int m) M2 | none => False
    | _ => False
  | _, _ => False
theorem ref_best {W : WX} {low : Bool} {ta tk : TA} {qa qk : DTA} (ha : RefA X.K W ta qa) (hk : RefA X.K W tk qk) : RefE X.K W (tCKw (rBest X.K low) ta tk) (qBest low qa qk) :=
  fun DW G H p M s Q Q' hw S h k => ha DW G H p M s _ _ hw S h fun G1 H1 M1 ds vs e1 S1 r1 h1 => hk DW G1 H1 p M1 s _ _ (hw.mono e1) S1 h1 fun G2 H2 M2 zs us e2 S2 r2 h2 => by
    split at h2
    · next x d =>
      obtain ⟨v, _, rfl, r3, r4⟩ := r1
      cases r4
      obtain ⟨u, _, rfl, r5, r6⟩ := r2
      cases r6
      split at h2
      · next es e =>
        split at h2
        · next ns e3 =>
          obtain ⟨a, rfl, c1⟩ := as_ints S2 (Rep.mono e2 _ _ r3) e e3
          exact ⟨a, ns, u, rfl, rfl, c1, fun z => k G2 H2 M2 d _ (e1.trans e2) S2 r5 (h2.1 z), fun m m1 m2 => k G2 H2 M2 (.int m) _ (e1.trans e2) S2 rfl (h2.2 m m1 m2)⟩
        · exact h2.elim
      · exact h2.elim
    · exact h2.elim
theorem q_maxD {W : WX} {k : Nat} {e : Expr} {kws : List Keyword} {ta tk : TA} {qa qk : DTA} {p pos : Pos} (hr : Room k X.A) (hg : Gl X "max") (hm : X.mg "max" = none) (ha : QA X W [e] ta qa) (hk : QK X W kws tk qk)
    (he : backTo pos (starEach [e] X.env) = (false, eval e X.env) :: backTo pos (starEach [] X.env) := by rfl) (hp : (backTo pos (starEach [e] X.env)).any (·.1) = false := by rfl)
    (ho : (backToKw pos (keywordEach kws X.env)).all (·.1.isSome) = true := by rfl) (hn : (backToKw pos (keywordEach kws X.env)).any (·.1.isNone) = false := by rfl) (hs : (backToKw pos (keywordEach kws X.env)).filterMap (·.1) = [Str.ofString "default"] := by rfl) :
    QE X W (.Call (.Name "max" p) [e] kws pos) (tCKw (rBest X.K false) ta tk) (qBest false qa qk) :=
  ⟨pe_callBK (cr_maxD hr) hg hm (by first | rfl | decide +kernel) ha.pe hk.pe (by decide) (by decide) he hp ho hn hs, ref_best ha.rf hk.rf⟩
end
end DL
namespace L2
open PySem PySem.Spec PyProof.Rows
end L2
namespace DL
open PySem PySem.Spec PyProof.Rows L2
end DL
namespace L2
open PySem PySem.Spec PyProof.Rows
theorem texts_each : ∀ {us : List Value} {ks : List Str}, us.length = ks.length → (∀ (j : Nat) (v : Value), us[j]? = some v → ∃ (x : Str) (t : Tok), ks[j]? = some x ∧ v = Value.str x t) → StrsAre us ks
  | [], [], _, _ => .nil
  | u :: us, k :: ks, hl, h => by
    obtain ⟨x, t, e1, rfl⟩ := h 0 u rfl
    obtain rfl : k = x := Option.some.inj e1
    exact .cons _ t (texts_each (by simpa using hl) fun j v e => h (j + 1) v e)
  | [], _ :: _, hl, _ => by simp at hl
  | _ :: _, [], hl, _ => by simp at hl
def rSortT (K : PySem.W.Frag) : List V → Hp → VK → Prop := fun vs H Q => ∃ (a : Addr) (xs : List Str), vs = [V.ref a] ∧ SqL K H a (xs.map V.str) ∧ xs.length ≤ sizeLine ∧
  ∀ (ys : List Str) (p : Addr), ys.Perm xs → sortedS ys = true → H p = none → Q (.ref p) (upd H p (.lst (ys.map V.str)))
def rSortTK : List V → Hp → VK → Prop := fun vs H Q => ∃ (a : Addr) (kvs : List (Key × V)) (xs : List Str), vs = [V.ref a] ∧ Rd H a (.dK kvs) ∧ kvs.map (·.1) = xs.map Sum.inr ∧ xs.length ≤ sizeLine ∧
  ∀ (ys : List Str) (p : Addr), ys.Perm xs → sortedS ys = true → H p = none → Q (.ref p) (upd H p (.lst (ys.map V.str)))
section
variable {X : Cx}
theorem cr_sortT : CallR X (.builtin "sorted") (rSortT X.K) := by
  intro pins s σ H vs us Q I r h
  obtain ⟨a, xs, rfl, hs, hz, q⟩ := h
  obtain ⟨its, rv, hl, _⟩ := I.list hs
  rw [Vals.ref1 r]
  have n0 := rv.length
  rw [List.length_map] at n0
  refine sorted_strsAny hl.isList rv.strs (by rw [← n0]; exact hz) fun out ys h1 h2 h3 => ?_
  obtain ⟨ep, e2⟩ := PyProof.Rows.sortedAll_at s.heap its out
  have n1 : (ys.map V.str).length ≤ sizeLine := by rw [List.length_map, h2.length_eq]; exact hz
  exact ⟨.ref _, upd H (s.heap.objs.size + 1) (.lst (ys.map V.str)), I.laid (t' := s.toks) (fun _ _ => PyProof.Rows.sortedAll_old) (Nat.le_succ _) ⟨n1, out.toList, ep, vals_of_strs h1, by rw [Array.toArray_toList]; exact e2⟩, rfl, q ys _ h2 h3 (I.hok.fresh (Nat.le_succ _))⟩
theorem cr_sortTK (hc : X.calm = true) : CallR X (.builtin "sorted") rSortTK := by
  intro pins s σ H vs us Q I r h
  obtain ⟨a, kvs, xs, rfl, hd, hks, hz, q⟩ := h
  rw [Vals.ref1 r]
  obtain ⟨_, lo, ws, rel, dd⟩ := dk_rd I.hok hd
  obtain ⟨ep, dat⟩ := dd.dictAt
  have k1 : ws.map (·.1) = xs.map Sum.inr := rel.keys.symm.trans hks
  have n1 : ws.length = xs.length := by have e := congrArg List.length k1; simpa using e
  refine Calls.call_function_entry PyProof.Rows.kind_sorted PyProof.Rows.plain_sorted PyProof.Rows.entry_sorted (PyProof.Rows.args_sorted1 _) ?_
  unfold Builtin.«sorted»
  refine wpAny_bind (m := checkCount "sorted" 1 1 _) (wpAny_pure ?_)
  refine wpAny_bind (PySem.W.kdu_collect (A := X.A.in1) (PySem.W.kdl_dict (knd := mixKind X.prog X.w) (kvs := ws) (ep := ep) lo) (I.ok.hd hc) dat (by rw [n1]; exact hz) fun h2 tk got hk hgot => ?_)
  have n2 : got.toList.length = xs.length := by rw [Array.length_toList, hgot.1, n1]
  have tx : StrsAre got.toList xs := texts_each n2 fun j v e => by
    obtain ⟨k, x, e1, e2⟩ := hgot.2 j v (by rw [← Array.getElem?_toList]; exact e)
    have e3 : (ws.map (·.1))[j]? = some k := by rw [List.getElem?_map, e1]; rfl
    rw [k1, List.getElem?_map] at e3
    obtain ⟨y, e4, rfl⟩ := Option.map_eq_some_iff.mp e3
    rcases keyIs_shape (show keyIs (Sum.inr y) v = true from e2) with ⟨i, t, ek, ev⟩ | ⟨z, t, ek, ev⟩
    · cases ek
    · cases ek
      exact ⟨_, t, e4, ev⟩
  have I1 : Inv X pins σ H { s with heap := h2, toks := tk } := I.kept hk
  refine wpAny_bind (wpAny_newList ?_ (by rw [n2]; exact hz))
  have atL : (h2.push (seqObj "list" got.toList.toArray 0)).get? h2.objs.size = some (seqObj "list" got.toList.toArray 0) := Heap.get?_push_size _ rfl
  show wpAny _ _ _ _ _ { s with heap := h2.push (seqObj "list" got.toList.toArray 0), toks := tk }
  refine wpAny_bind (wpAny_holding (wpAny_call_entry PyProof.Rows.slot_list_sort ⟨_, atL, rfl⟩ PyProof.Rows.entry_list_sort
    (list_sort_treeKAny (s := { s with heap := h2.push (seqObj "list" got.toList.toArray 0), toks := tk }) strKind_oneLt atL tx.keysOf (fun v₁ v₂ rest e => keyKind_strs (by rw [← e]; exact tx)) (by rw [n2]; exact hz) fun st hp hs => ⟨_, rfl, ?_⟩) (PyProof.Rows.args_list_sort _)))
  obtain ⟨ys, g1, g2, g3⟩ := sorted_out_str tx hp hs
  obtain ⟨e5, e6⟩ := PyProof.Rows.sortedHeap_at (vs := got.toList) (out := (arrOf st).map (·.2)) atL
  have n3 : (ys.map V.str).length ≤ sizeLine := by rw [List.length_map, g2.length_eq]; exact hz
  refine wpAny_pure ⟨_, rfl, .ref h2.objs.size, upd H h2.objs.size (.lst (ys.map V.str)), I1.laid (t' := tk) (fun b u e => ?_) (Nat.le_refl _)
    (show ObjOk X.prog X.w _ _ _ (.lst (ys.map V.str)) from ⟨n3, _, e5, vals_of_strs g1, by rw [Array.toArray_toList]; exact e6⟩), rfl, q ys _ g2 g3 (I1.hok.fresh (Nat.le_refl _))⟩
  have lt : b < h2.objs.size := Heap.lt_size e
  rw [PyProof.Rows.sortedHeap_old (Nat.ne_of_lt lt) (by rw [size_push']; exact Nat.lt_succ_of_lt lt)]
  exact Heap.get?_push_of_some _ e
end
end L2
namespace DL
open PySem PySem.Spec PyProof.Rows L2
def txL : List D → Option (List Str)
  | [] => some []
  | .str z :: ds => match txL ds with
    | some zs => some (z :: zs)
    | none => none
  | _ => none
theorem txL_eq : ∀ {ds : List D} {zs : List Str}, txL ds = some zs → ds = zs.map .str
  | [], zs, h => by cases h; rfl
  | d :: ds, zs, h => by
    unfold txL at h
    split at h
    · next e => cases e
    · next z es e =>
      cases e
      split at h
      · next ys e2 => cases h; rw [txL_eq e2]; rfl
      · cases h
    · cases h
@[simp] theorem txL_map (zs : List Str) : txL (zs.map .str) = some zs := by
  induction zs with
  | nil => rfl
  | cons z zs ih => show (match txL (zs.map .str) with | some ys => some (z :: ys) | none => none) = _; rw [ih]
def txKeys : List Key → Option (List Str)
  | [] => some []
  | .inr z :: ks => match txKeys ks with
    | some zs => some (z :: zs)
    | none => none
  | _ => none
theorem txKeys_eq : ∀ {ks : List Key} {zs : List Str}, txKeys ks = some zs → ks = zs.map Sum.inr
  | [], zs, h => by cases h; rfl
  | d :: ds, zs, h => by
    unfold txKeys at h
    split at h
    · next e => cases e
    · next z es e =>
      cases e
      split at h
      · next ys e2 => cases h; rw [txKeys_eq e2]; rfl
      · cases h
    · cases h
@[simp] theorem txKeys_map (zs : List Str) : txKeys (zs.map Sum.inr) = some zs := by
  induction zs with
  | nil => rfl
  | cons z zs ih => show (match txKeys (zs.map Sum.inr) with | some ys => some (z :: ys) | none => none) = _; rw [ih]
theorem repL_txs {K : PySem.W.Frag} {G : Hp} : ∀ {ys : List Str}, (∀ y ∈ ys, kOk (.inr y)) → RepL K G (ys.map D.str) (ys.map V.str)
  | [], _ => rfl
  | y :: ys, h => ⟨_, _, rfl, ⟨rfl, (h y (List.mem_cons_self ..)).1, (h y (List.mem_cons_self ..)).2⟩, repL_txs fun x hx => h x (List.mem_cons_of_mem _ hx)⟩
theorem repL_txs' {K : PySem.W.Frag} {G : Hp} : ∀ {zs : List Str} {vs : List V}, RepL K G (zs.map D.str) vs → vs = zs.map V.str ∧ ∀ y ∈ zs, kOk (.inr y)
  | [], _, h => by cases h; exact ⟨rfl, fun y hy => nomatch hy⟩
  | n :: ns, _, ⟨v, q, h1, h2, h3⟩ => by
    obtain ⟨g1, g2, g3⟩ := h2
    obtain ⟨rfl, g4⟩ := repL_txs' h3
    refine ⟨by rw [h1, g1]; rfl, fun y hy => ?_⟩
    rcases List.mem_cons.mp hy with rfl | hy
    · exact ⟨g2, g3⟩
    · exact g4 y hy
/-- sorted(xs): a list of texts, a dict whose keys are texts -/
def dSortT (m : Bool) : DCa := fun ds M Q => match ds with
  | [x] => match res M x with
    | .lst es => match txL es with
      | some zs => ∀ ys : List Str, ys.Perm zs → sortedS ys = true → newL m (ys.map .str) M Q
      | none => False
    | .dct ks _ => match txKeys ks with
      | some zs => ∀ ys : List Str, ys.Perm zs → sortedS ys = true → newL m (ys.map .str) M Q
      | none => False
    | _ => False
  | _ => False
theorem c_sortT {X : Cx} (m : Bool) (hc : X.calm = true) : QCa X (.builtin "sorted") (fun xs H Q => rSortT X.K xs H Q ∨ rSortTK xs H Q) (dSortT m) := ⟨cr_sortT.or (cr_sortTK hc), fun G H p M s ds vs Q Q' S r h k => by
  unfold dSortT at h
  split at h
  · next x =>
    obtain ⟨v, rfl, r1⟩ := repL1 r
    split at h
    · next es e1 =>
      obtain ⟨a, us, rfl, g1, g2, g3⟩ := as_lst S r1 e1
      split at h
      · next zs en =>
        have ee := txL_eq en
        subst ee
        obtain ⟨rfl, g4⟩ := repL_txs' g2
        rw [List.length_map] at g3
        refine .inl ⟨a, zs, rfl, .inl (.inl g1), g3, fun ys q hp hw hn => newL_ok S hn (repL_txs fun y hy => g4 y (hp.mem_iff.mp hy)) (by rw [List.length_map, hp.length_eq]; exact g3) (h ys hp hw) k⟩
      · exact h.elim
    · next ks fs e1 =>
      obtain ⟨a, kvs, rfl, g1, g2, g3, g4, g5⟩ := as_dct S r1 e1
      split at h
      · next zs en =>
        have ee := txKeys_eq en
        subst ee
        have n1 : zs.length ≤ sizeLine := by have := congrArg List.length g2; simp only [List.length_map] at this; omega
        refine .inr ⟨a, kvs, zs, rfl, g1, g2, n1, fun ys q hp hw hn => newL_ok S hn (repL_txs fun y hy => g5 _ (List.mem_map_of_mem (hp.mem_iff.mp hy))) (by rw [List.length_map, hp.length_eq]; exact n1) (h ys hp hw) k⟩
      · exact h.elim
    · exact h.elim
  · exact h.elim⟩
end DL
set_option maxHeartbeats 4000000
namespace L2
open PySem PySem.Spec PyProof.Rows
/-- the classes that a clause's test names -/
inductive TstX (X : Cx) : Expr → List Value → Prop
  | one {x : Str} {c : Value} {np : Pos} (h : Names X x c) : TstX X (.Name x np) [c]
  | tup2 {x1 x2 : Str} {c1 c2 : Value} {p1 p2 p : Pos} {k} (h1 : Names X x1 c1) (h2 : Names X x2 c2) : TstX X (.Tuple [.Name x1 p1, .Name x2 p2] k p) [c1, c2]
  | tup3 {x1 x2 x3 : Str} {c1 c2 c3 : Value} {p1 p2 p3 p : Pos} {k} (h1 : Names X x1 c1) (h2 : Names X x2 c2) (h3 : Names X x3 c3) : TstX X (.Tuple [.Name x1 p1, .Name x2 p2, .Name x3 p3] k p) [c1, c2, c3]
theorem name_ok {X : Cx} {E : Value → Shared → Prop} {pins : List (Addr × Obj)} {s : Shared} {σ : St} {H : Hp} {x : Str} {c : Value} {pos : Pos} {Q : Value → Shared → Prop} (hc : Names X x c) (S : Inv X pins σ H s) (q : Q c s) : wpAny (model X.prog X.w) X.A (eval (.Name x pos) X.env) Q E s := by
  obtain ⟨hg, hdbg, hm | ⟨hm, hv, hnn⟩⟩ := hc
  · exact ld_glob S hg hm q hdbg
  · exact ld_blt S hg hm hv q hnn hdbg
theorem flying_push {B : Heap} {l : List Env} {a : Addr} {Z : Obj → Prop} {h : Heap} {o : Obj} (fl : HandSPX.FlyingZ B l a Z h) : HandSPX.FlyingZ B l a Z (h.push o) ∧ h.UpToSlots (h.push o) := by
  obtain ⟨k1, k2, k3, oe, vs, T, oT, ts', he, hz, hd, h1, h2, h3, h4, h5, h6⟩ := fl
  exact ⟨⟨fun b u e => Heap.get?_push_of_some _ (k1 b u e), k2, Heap.FunFrames.of_keeps (fun b o e _ => ⟨o, Heap.get?_push_of_some _ e, rfl⟩) k3,
    oe, vs, T, oT, ts', Heap.get?_push_of_some _ he, hz, hd, h1, h2, h3, Heap.get?_push_of_some _ h4, h5, h6⟩, fun b u e _ => ⟨u.slots, Heap.get?_push_of_some _ e⟩⟩
theorem TstX.run {X : Cx} {t : Expr} {cs : List Value} (T : TstX X t cs) {pins : List (Addr × Obj)} {s : Shared} {σ : St} {H : Hp} {B : Heap} {l : List Env} {a : Addr} {cls : Value} {d : Option Addr} {b : Bool} {A2 : Around}
    {E1 E2 : Value → Shared → Prop} {Q : Bool → Shared → Prop} (S : Inv X pins σ H s) (fl : HandSPX.FlyingZ B l a (Zc cls d) s.heap) (hx : PySem.W.exmAny X.K cls cs = some b)
    (hq : ∀ h', HandSPX.FlyingZ B l a (Zc cls d) h' → s.heap.UpToSlots h' → Q b { s with heap := h' }) :
    wpAny (model X.prog X.w) X.A (eval t X.env) (fun c s1 => wpAny (model X.prog X.w) A2 (excMatches (.ref a) c) Q E2 s1) E1 s := by
  obtain ⟨oe3, vs3, he3, hz3, hd3⟩ := fl.there
  have LT : PySem.W.Looks (model X.prog X.w) s.heap (typeOf (.ref a)) cls := fun A Q E s k q => wpAny_typeOf_ref (k _ _ he3) (by rw [hz3.1]; exact q)
  cases T with
  | one h =>
    obtain ⟨b1, d1, x1, y1, z1⟩ := PySem.W.exmAny_cons hx
    have : some false = some d1 := y1
    cases this
    rw [Bool.or_false] at z1
    subst z1
    exact name_ok h S ((PySem.W.exm_one (M := model X.prog X.w) S.kIn LT x1).here (hq _ fl (Heap.UpToSlots.refl _)))
  | tup2 h1 h2 =>
    refine wpAny_Tuple_spliced ?_
    show wpAny _ _ (spliced [(false, eval (.Name _ _) X.env), (false, eval (.Name _ _) X.env)]) _ _ s
    refine Calls.spliced_cons (name_ok h1 S (Calls.spliced_cons (name_ok h2 S (Calls.spliced_nil ⟨by show (2 : Nat) ≤ sizeLine; decide, ?_⟩))))
    exact (PySem.W.exm_tup2 (M := model X.prog X.w) (S.kIn.keeps fun b u e => Heap.get?_push_of_some _ e) (LT.keeps fun b u e => Heap.get?_push_of_some _ e) (Heap.get?_push_size _ rfl) hx).here (hq _ (flying_push fl).1 (flying_push fl).2)
  | tup3 h1 h2 h3 =>
    refine wpAny_Tuple_spliced ?_
    show wpAny _ _ (spliced [(false, eval (.Name _ _) X.env), (false, eval (.Name _ _) X.env), (false, eval (.Name _ _) X.env)]) _ _ s
    refine Calls.spliced_cons (name_ok h1 S (Calls.spliced_cons (name_ok h2 S (Calls.spliced_cons (name_ok h3 S (Calls.spliced_nil ⟨by show (3 : Nat) ≤ sizeLine; decide, ?_⟩))))))
    exact (PySem.W.exm_tup3 (M := model X.prog X.w) (S.kIn.keeps fun b u e => Heap.get?_push_of_some _ e) (LT.keeps fun b u e => Heap.get?_push_of_some _ e) (Heap.get?_push_size _ rfl) hx).here (hq _ (flying_push fl).1 (flying_push fl).2)
end L2
set_option maxHeartbeats 4000000
namespace DL
open PySem PySem.Spec PyProof.Rows L2
inductive HsU (X : Cx) (sts : List Stmt) : List (Addr × (Addr → Option Addr → DTS)) → Prop
  | nil : HsU X sts []
  | cons {C : Addr} {qh : Addr → Option Addr → DTS} {cs : List (Addr × (Addr → Option Addr → DTS))}
      (h : ∀ (a : Addr) (oe : Obj) (d : Option Addr) (pn : List (Addr × Obj)), Zc (.ref C) d oe → (∃ vs, oe.data = .fields vs) → ∃ tt, QSs (X.suite a ((a, oe) :: pn)) W0 sts tt (qh a d)) (r : HsU X sts cs) : HsU X sts ((C, qh) :: cs)
theorem HsU.at {X : Cx} {sts : List Stmt} {cs : List (Addr × (Addr → Option Addr → DTS))} (h : HsU X sts cs) {C : Addr} {qh : Addr → Option Addr → DTS} (e : cs.lookup C = some qh) {a : Addr} {oe : Obj} {d : Option Addr} {pn : List (Addr × Obj)} (hz : Zc (.ref C) d oe) (hd : ∃ vs, oe.data = .fields vs) :
    ∃ tt, QSs (X.suite a ((a, oe) :: pn)) W0 sts tt (qh a d) := by
  induction h with
  | nil => cases e
  | @cons D qd cs h r ih =>
    rw [List.lookup_cons] at e
    cases c : C == D with
    | true =>
      rw [c] at e
      cases e
      have := beq_iff_eq.mp c
      subst this
      exact h a oe d pn hz hd
    | false => rw [c] at e; exact ih e
end DL
namespace DL
open PySem L2
section
variable {X : Cx}
def rUpdD (K : PySem.W.Frag) : V → List V → Hp → VK → Prop := fun x vs H Q => ∃ (a b : Addr) (kvs more : List (Key × V)), x = .ref a ∧ vs = [.ref b] ∧ H a = some (.dK kvs) ∧ Rd H b (.dK more) ∧ a ≠ b ∧ kvs.length + more.length ≤ sizeLine ∧ Q .non (upd H a (.dK (mergeK kvs more)))
theorem mt_updateD : MtR X "dict.update" (rUpdD X.K) := by
  intro pins s σ H x vs v us Q I rx rv h
  obtain ⟨a, b, kvs, more, rfl, rfl, hH, hB, nab, hl, q⟩ := h
  cases rx
  obtain ⟨u, rfl, ru⟩ := rv.one
  cases ru
  obtain ⟨z, hd, acc, racc, dd⟩ := dk_of I.hok hH
  obtain ⟨z2, hd2, acc2, racc2, dd2⟩ := dk_rd I.hok hB
  have l1 := racc.length
  have l2 := racc2.length
  obtain ⟨hp, g, dr, tk, os⟩ := s
  refine call_meetsIn PySem.F.slot_dict_update dd.typeIs PySem.F.entry_dict_update (PySem.F.args_dict_update_2 _ _) (meets_dict_update (mixKind X.prog X.w) a b nab hd2)
    ⟨acc, acc2, dd, dd2, by omega, fun h' dd' _ hs => ?_⟩
  have hlen : (mergeK kvs more).length ≤ sizeLine := Nat.le_trans (length_mergeK more kvs) hl
  have he : ∃ q, h'.get? a = some q := let ⟨q, _, _, hq, _⟩ := dd'; ⟨q, hq⟩
  exact ⟨.non, _, I.write (t' := tk) (x := a) (e := a) (by rw [hH]; exact True.intro) (.inl rfl) (fun b' q' z hb => by rw [hs.2 b' z]; exact hb) he (dk_new hlen hd (KV.merge racc2 racc) dd'), rfl, q⟩
end
def mUpdD : DMt := fun x ds M Q => match x, ds with
  | .ref a, [.dct ks es] => match M a with
    | some (.dK kvs) => kvs.length + ks.length ≤ 100000 ∧ Q .non (put M a (.dK (putAllD kvs (ks.zip es))))
    | _ => False
  | _, _ => False
theorem m_updateD {X : Cx} : QMt X "dict.update" (rUpdD X.K) mUpdD := ⟨mt_updateD, fun G H p M s x v ds vs Q Q' S r1 r2 h k => by
  unfold mUpdD at h
  split at h
  · next a ks es =>
    cases r1
    obtain ⟨u, rfl, r3⟩ := repL1 r2
    split at h
    · next kvs em =>
      obtain ⟨hl, h⟩ := h
      obtain ⟨gn, kv, g1, g2, g3, g4, g5⟩ := S.mem _ _ em
      obtain ⟨b, mv, rfl, b1, b2, b3, b4, b5⟩ := r3
      have l1 : kv.length = kvs.length := by have := congrArg List.length g2; simpa using this
      have l2 : mv.length = ks.length := by have := congrArg List.length b2; simpa using this
      have l3 : es.length = mv.length := by have := RepL.length b3; rw [List.length_map] at this; exact this.symm
      have hz := sizeLine_eq
      have z1' : (ks.zip es).map (·.1) = ks := List.map_fst_zip (by omega)
      have z2' : (ks.zip es).map (·.2) = es := List.map_snd_zip (by omega)
      obtain ⟨z1, z2⟩ := putAll_rel (more := ks.zip es) (b2.trans z1'.symm) (by rw [z2']; exact b3) g2 g3
      refine ⟨a, b, kv, mv, rfl, rfl, g1, same_rd S.same b1, ?_, by omega, ?_⟩
      · rintro rfl
        rcases b1 with b1 | ⟨_, b1⟩ <;> (rw [gn] at b1; cases b1)
      refine k G _ _ .non _ (Same.refl _) (S.put (mo := .dK (putAllD kvs (ks.zip es))) gn ⟨_, upd_same, z1, z2, ?_, putAll_keys g5 ?_⟩) rfl h
      · have := length_mergeK mv kv
        omega
      · intro q hq
        exact b5 q.1 (List.of_mem_zip hq).1
    · exact h.elim
  · exact h.elim⟩
end DL
namespace DL
open PySem PySem.Spec PyProof.Rows L2
/-- with the lists of the memory put in, n deep -/
def deepR (M : Mst) : Nat → D → D
  | 0, d => d
  | n + 1, .ref a => match M a with
    | some (.lst ds) => .lst (ds.map (deepR M n))
    | _ => .ref a
  | n + 1, .tup ds => .tup (ds.map (deepR M n))
  | n + 1, .lst ds => .lst (ds.map (deepR M n))
  | _ + 1, d => d
theorem deepL_of {K : PySem.W.Frag} {G H : Hp} {f : D → D} (ih : ∀ d v, isData (f d) = true → Rep K G d v → Dp K H v (pyd (f d)) ∧ (pyd (f d)).canLay0 = true) : ∀ (ds : List D) (vs : List V), isDataL (ds.map f) = true → RepL K G ds vs → DpAll K H vs (pydL (ds.map f)) ∧ PyData.canLayAll0 (pydL (ds.map f)) = true
  | [], _, _, h => by cases h; exact ⟨.nil, rfl⟩
  | d :: ds, _, i, ⟨v, r, h1, h2, h3⟩ => by
    subst h1
    have i' : isData (f d) = true ∧ isDataL (ds.map f) = true := by simpa [isDataL] using i
    obtain ⟨a1, a2⟩ := ih d v i'.1 h2
    obtain ⟨b1, b2⟩ := deepL_of ih ds r i'.2 h3
    refine ⟨.cons a1 b1, ?_⟩
    simp only [List.map_cons, pydL, PyData.canLayAll0, Bool.and_eq_true]
    exact ⟨a2, b2⟩
theorem deep_of {K : PySem.W.Frag} {G H : Hp} {p : Rho} {M : Mst} {s : L2.St} (S : Sim K G H p M s) : ∀ (n : Nat) (d : D) (v : V), isData (deepR M n d) = true → Rep K G d v → Dp K H v (pyd (deepR M n d)) ∧ (pyd (deepR M n d)).canLay0 = true
  | 0, d, v, i, r => ⟨dp_of S.same d v i r, lay_of d v i r⟩
  | n + 1, d, v, i, r => by
    have ih := deep_of S n
    cases d with
    | ref a =>
      cases e : M a with
      | none => simp only [deepR, e] at i; cases i
      | some o =>
        cases o with
        | lst ds =>
          simp only [deepR, e] at i ⊢
          obtain ⟨a, vs, h1, h2, h3, h4⟩ := as_lst S r (show res M (.ref a) = .lst ds by simp [res, e])
          subst h1
          obtain ⟨b1, b2⟩ := deepL_of ih ds vs i h3
          exact ⟨.lst (.inl (.inl h2)) b1, b2⟩
        | _ => simp only [deepR, e] at i; cases i
    | tup ds =>
      obtain ⟨a, vs, h1, h2, h3, h4⟩ := r
      subst h1
      obtain ⟨b1, b2⟩ := deepL_of ih ds vs i h3
      exact ⟨.tup (.inl (.inl (S.same _ _ h2))) b1, b2⟩
    | lst ds =>
      obtain ⟨a, vs, h1, h2, h3, h4⟩ := r
      subst h1
      obtain ⟨b1, b2⟩ := deepL_of ih ds vs i h3
      exact ⟨.lst (.inl (.inl (S.same _ _ h2))) b1, b2⟩
    | ktp ds => exact ⟨dp_of S.same (.ktp ds) v i r, lay_of (.ktp ds) v i r⟩
    | xtp ds => exact ⟨dp_of S.same (.xtp ds) v i r, lay_of (.xtp ds) v i r⟩
    | _ => exact ⟨dp_of S.same _ v i r, lay_of _ v i r⟩
def dEqR (n : Nat) (neg : Bool) : DOp := fun x y M Q => isData (deepR M n x) = true ∧ isData (deepR M n y) = true ∧ min (dep (deepR M n x)) (dep (deepR M n y)) ≤ 64 ∧ Q (.bl (xor neg (deq (deepR M n x) (deepR M n y)))) M
theorem ref_eqR {K : PySem.W.Frag} {n : Nat} {neg : Bool} : RefR2 K (rEqX K neg) (dEqR n neg) := fun G H p M s x y v u Q Q' S r1 r2 ⟨i1, i2, hm, q⟩ k => by
  obtain ⟨a1, a2⟩ := deep_of S n x v i1 r1
  obtain ⟨b1, b2⟩ := deep_of S n y u i2 r2
  exact ⟨_, _, a1, b1, a2, b2, hm, k G H M (.bl _) _ (Same.refl _) S rfl q⟩
theorem o_neR {X : Cx} (n : Nat) (hu : X.A.units + 64 < cLine) : QOp X (compareOp .NotEq) (rEqX X.K true) (dEqR n true) := ⟨op_neX hu, ref_eqR⟩
theorem eqR_same {n : Nat} {neg : Bool} {x y d : D} {M : Mst} {Q : DK} (hx : deepR M n x = d) (hy : deepR M n y = d) (h : isData d = true) (hd : dep d ≤ 64) : dEqR n neg x y M Q = Q (.bl (!neg)) M := by
  unfold dEqR
  rw [hx, hy, deq_refl d h]
  have h3 : min (dep d) (dep d) ≤ 64 := Nat.le_trans (Nat.min_le_left _ _) hd
  simp [h, h3, hd]
end DL
namespace L2
open PySem PySem.Spec PyProof.Rows
end L2
namespace DL
open PySem PySem.Spec PyProof.Rows L2
end DL
namespace DL
open PySem PySem.Spec PyProof.Rows L2
def leS (a b : Str) : Prop := ltCps b.cps.toList a.cps.toList = false
theorem leS_iff (a b : Str) : leS a b ↔ ¬ b.cps.toList < a.cps.toList := by unfold leS; rw [ltCps_eq]; simp
theorem leS_trans {a b c : Str} (h : leS a b) (g : leS b c) : leS a c := by
  rw [leS_iff] at *
  exact List.le_trans (show a.cps.toList ≤ b.cps.toList from h) (show b.cps.toList ≤ c.cps.toList from g)
theorem leS_anti {a b : Str} (h : leS a b) (g : leS b a) : a = b := by
  rw [leS_iff] at *
  have := List.le_antisymm (show a.cps.toList ≤ b.cps.toList from h) (show b.cps.toList ≤ a.cps.toList from g)
  cases a; cases b
  exact congrArg Str.mk (Array.toList_inj.mp this)
theorem rising_pw : ∀ (l : List Str) (p : Str), risingS p l = true → (p :: l).Pairwise leS
  | [], p, _ => List.pairwise_singleton ..
  | x :: r, p, h => by
    unfold risingS at h
    rw [Bool.and_eq_true, Bool.not_eq_true'] at h
    have ih := rising_pw r x h.2
    refine List.pairwise_cons.mpr ⟨fun y hy => ?_, ih⟩
    rcases List.mem_cons.mp hy with rfl | hy
    · exact h.1
    · exact leS_trans (show leS p x from h.1) ((List.pairwise_cons.mp ih).1 y hy)
theorem sorted_pw {l : List Str} (h : sortedS l = true) : l.Pairwise leS := by
  cases l with
  | nil => exact .nil
  | cons x r => exact rising_pw r x h
theorem pw_uniq : ∀ {xs ys : List Str}, xs.Pairwise leS → ys.Pairwise leS → xs.Perm ys → xs = ys
  | [], ys, _, _, p => (List.nil_perm.mp p).symm
  | x :: xs, [], _, _, p => absurd (List.perm_nil.mp p) (by simp)
  | x :: xs, y :: ys, h, g, p => by
    have e : x = y := by
      have hx : x ∈ y :: ys := p.mem_iff.mp (List.mem_cons_self ..)
      have hy : y ∈ x :: xs := p.mem_iff.mpr (List.mem_cons_self ..)
      rcases List.mem_cons.mp hx with rfl | hx
      · rfl
      · rcases List.mem_cons.mp hy with e | hy
        · exact e.symm
        · exact leS_anti ((List.pairwise_cons.mp h).1 y hy) ((List.pairwise_cons.mp g).1 x hx)
    subst e
    rw [pw_uniq (List.pairwise_cons.mp h).2 (List.pairwise_cons.mp g).2 (List.Perm.cons_inv p)]
end DL
namespace DL
open PySem L2
mutual
/-- None, numbers, texts, tuples and lists of such -/
def prm : D → Bool
  | .non => true
  | .int _ => true
  | .str _ => true
  | .tup ds => prmL ds
  | .lst ds => prmL ds
  | _ => false
def prmL : List D → Bool
  | [] => true
  | d :: ds => prm d && prmL ds
end
mutual
theorem prm_data : ∀ d : D, prm d = true → isData d = true
  | .non, _ => rfl
  | .int _, _ => rfl
  | .str _, _ => rfl
  | .tup ds, h => prmL_data ds h
  | .lst ds, h => prmL_data ds h
  | .bl _, h => by cases h
  | .ktp _, h => by cases h
  | .xtp _, h => by cases h
  | .scr _, h => by cases h
  | .ty _, h => by cases h
  | .ref _, h => by cases h
  | .dct _ _, h => by cases h
  | .ins _ _ _, h => by cases h
  | .exc _ _ _ _, h => by cases h
  | .fnv _ _ _ _ _, h => by cases h
  | .fno _ _ _ _, h => by cases h
theorem prmL_data : ∀ ds : List D, prmL ds = true → isDataL ds = true
  | [], _ => rfl
  | d :: ds, h => by
    have h' : prm d = true ∧ prmL ds = true := by simpa [prmL] using h
    simp [isDataL, prm_data d h'.1, prmL_data ds h'.2]
end
theorem prmL_all : ∀ ds : List D, prmL ds = ds.all prm
  | [] => rfl
  | d :: ds => by simp [prmL, prmL_all ds]
mutual
theorem deep_prm (M : Mst) : ∀ (n : Nat) (d : D), prm d = true → deepR M n d = d
  | 0, _, _ => rfl
  | n + 1, .non, _ => rfl
  | n + 1, .int _, _ => rfl
  | n + 1, .str _, _ => rfl
  | n + 1, .tup ds, h => by show D.tup (ds.map (deepR M n)) = _; rw [deepL_prm M n ds h]
  | n + 1, .lst ds, h => by show D.lst (ds.map (deepR M n)) = _; rw [deepL_prm M n ds h]
  | n + 1, .bl _, h => by cases h
  | n + 1, .ktp _, h => by cases h
  | n + 1, .xtp _, h => by cases h
  | n + 1, .scr _, h => by cases h
  | n + 1, .ty _, h => by cases h
  | n + 1, .ref _, h => by cases h
  | n + 1, .dct _ _, h => by cases h
  | n + 1, .ins _ _ _, h => by cases h
  | n + 1, .exc _ _ _ _, h => by cases h
  | n + 1, .fnv _ _ _ _ _, h => by cases h
  | n + 1, .fno _ _ _ _, h => by cases h
theorem deepL_prm (M : Mst) : ∀ (n : Nat) (ds : List D), prmL ds = true → ds.map (deepR M n) = ds
  | _, [], _ => rfl
  | n, d :: ds, h => by
    have h' : prm d = true ∧ prmL ds = true := by simpa [prmL] using h
    rw [List.map_cons, deep_prm M n d h'.1, deepL_prm M n ds h'.2]
end
theorem deep_ls {M : Mst} {n : Nat} {a : Addr} {l : List D} (h : M a = some (.lst l)) (hp : prmL l = true) : deepR M (n + 1) (.ref a) = .lst l := by
  simp only [deepR, h, deepL_prm M n l hp]
theorem prmL_strs (v : List Str) : prmL (v.map .str) = true := by rw [prmL_all, List.all_map, List.all_eq_true]; intro x _; rfl
theorem dep_strs (v : List Str) : dep (.lst (v.map .str)) ≤ 1 := dep_lst fun d hd => by obtain ⟨x, _, rfl⟩ := List.mem_map.mp hd; exact Nat.le_of_ble_eq_true rfl
end DL
namespace DL
open PySem PySem.Spec PyProof.Rows L2
/-- a zip that is strict -/
abbrev IsZs (h : Heap) (z TI TO : Addr) (f0 : Value) : Prop :=
  h.get? z = some { cls := .type "zip", dict := none, data := .fields #[f0, .bool false, .bool true, .ref TI, .ref TO], slots := #[] }
section
variable {prog : Program} {w : World} {A : Around} {E : Value → Shared → Prop} {s : Shared}
/-- e is a StopIteration -/
def IsStop (e : Value) (s : Shared) : Prop := ∃ a o, e = .ref a ∧ s.heap.get? a = some o ∧ o.cls = .type "StopIteration"
theorem noe {it : Value} {Q : Option Value → Shared → Prop} (h : wpAny (model prog w) A (Builtin.SmallTypes.nextOf it) (fun v s' => Q (some v) s') (fun e s' => IsStop e s' ∧ Q none s') s) :
    wpAny (model prog w) A (Builtin.SmallTypes.nextOrEnd it) Q E s := by
  unfold Builtin.SmallTypes.nextOrEnd
  refine wpAny_bind (wpAny_attempt (wpAny_mono h (fun v s' q => wpAny_pure q) fun e s' z => ?_))
  obtain ⟨⟨a, o, rfl, ho, hc⟩, q⟩ := z
  exact wpAny_bind (wpAny_isInstance (T := "StopIteration") (b := true) ⟨o, ho, hc⟩ isSubtype_stop (wpAny_pure q))
theorem stop_new {α : Type} {Q : α → Shared → Prop} (hh : A.handled = none) (hE : ∀ h' e, (∀ b o, s.heap.get? b = some o → h'.get? b = some o) → IsStop e { s with heap := h' } → E e { s with heap := h' }) :
    wpAny (model prog w) A (Builtin.SmallTypes.stopIteration : Sem α) Q E s := by
  unfold Builtin.SmallTypes.stopIteration
  refine wpAny_bind ?_
  simp only [newExc, newTuple]
  refine wpAny_bind (wpAny_newObj_type ?_ (by size_fits))
  refine wpAny_bind (m := firstArgMember _ _) (wpAny_of_eq (a := Value.none) (by first | rfl | (simp only [firstArgMember]; rfl)) ?_)
  refine wpAny_newObj_type ?_ (by size_fits)
  simp only [raiseNew]
  refine wpAny_bind (wpAny_handled ?_)
  rw [hh]
  refine wpAny_bind (wpAny_pure (wpAny_throw ?_))
  exact hE _ _ (fun b o e => Heap.get?_push_of_some _ (Heap.get?_push_of_some _ e)) ⟨_, _, rfl, Heap.get?_push_size _ rfl, rfl⟩
theorem go_zs {elts : List Expr} {x1} {pos : Pos} {z TI TO T : Addr} {Q : Unit → Shared → Prop} (hz : IsZs s.heap z TI TO (rawInt T))
    (hQ : ∀ h', IsZs h' z TI TO .none → Heap.SameBut z s.heap h' → Q () { s with heap := h' }) : wpAny (model prog w) A (letOwnedTupleGo (.Tuple elts x1 pos) (.ref z) (.ref T)) Q E s := by
  unfold letOwnedTupleGo
  refine wpAny_bind (wpAny_load hz ?_)
  dsimp only
  rw [if_pos (by simp)]
  exact wpAny_bind (wpAny_rule (wpAny_setField_rec hz (by simp) fun h' hz' hs' => hQ h' hz' hs'))
theorem iter_zs {z TI TO : Addr} {f0 : Value} {Q : Value → Shared → Prop} (hz : IsZs s.heap z TI TO f0) (h : Q (.ref z) s) : wpAny (model prog w) A (pyIter (.ref z)) Q E s := by
  have hT : s.TypeIs (.ref z) "zip" := ⟨_, hz, rfl⟩
  refine wpAny_pyIter_slot hT F.slot_zip_iter (wpAny_call_entry F.slot_zip_iter hT F.entry_zip_iter ?_ (F.args_zip_iter_1 _))
  show wpAny _ _ (ret (.ref z)) _ _ s
  exact wpAny_pure ⟨_, rfl, "zip", _, hT, F.slot_zip_next.lookup, h⟩
variable {z TI TO i1 i2 : Addr} {fp1 fp2 : List Addr} {n i : Nat} {P1 P2 : Nat → Value → Prop} {St1 St2 : Nat → Heap → Prop} {a1 a2 : Value}
/-- the turn ends with all of both -/
theorem zs_end {Q : PySem.Fin → Shared → Prop} (hh : A.handled = none) (S : ZipSep2 z TI TO i1 i2 fp1 fp2) (D1 : Draws prog w A i1 fp1 n P1 St1) (D2 : Draws prog w A i2 fp2 n P2 St2)
    (hz : IsZs s.heap z TI TO .none) (hTI : IsTupOf2 s.heap TI (.ref i1) (.ref i2)) (hTO : IsTupOf2 s.heap TO a1 a2) (st1 : St1 n s.heap) (st2 : St2 n s.heap)
    (hE : ∀ h' tk e, (∀ c o, c ≠ z → c ≠ TO → c ≠ i1 → c ≠ i2 → s.heap.get? c = some o → h'.get? c = some o) → IsStop e { s with heap := h', toks := tk } → E e { s with heap := h', toks := tk }) :
    wpAny (model prog w) A (Builtin.«zip.__next__» ⟨[.ref z], []⟩) Q E s := by
  obtain ⟨hp, g, d, tk0, os⟩ := s
  show wpAny _ _ (field (.ref z) 2 >>= _) _ _ _
  refine wpAny_bind (wpAny_field hz rfl (x := .bool true) rfl ?_)
  show wpAny _ _ (field (.ref z) 3 >>= _) _ _ _
  refine wpAny_bind (wpAny_field hz rfl (x := .ref TI) rfl ?_)
  refine wpAny_bind (wpAny_seqItems hTI rfl ?_)
  show wpAny _ _ (Builtin.SmallTypes.ownedTupleIsFree (.ref z) >>= _) _ _ _
  refine wpAny_bind ?_
  unfold Builtin.SmallTypes.ownedTupleIsFree
  refine wpAny_bind (wpAny_field hz rfl (x := .none) rfl (wpAny_pure ?_))
  simp only [if_true]
  refine wpAny_bind (wpAny_rule ?_)
  refine wpAny_bind (wpAny_field hz rfl (x := .ref TO) rfl ?_)
  refine wpAny_bind (wpAny_setField_rec hz (by simp) fun g0 hz0 hs0 => ?_)
  replace hz0 : IsZs g0 z TI TO .ellipsis := hz0
  replace hs0 : Heap.SameBut z hp g0 := hs0
  refine wpAny_bind ?_
  simp only [List.zipIdx_cons, List.zipIdx_nil, List.forIn_cons, List.forIn_nil]
  refine wpAny_bind (wpAny_bind (wpAny_onRaise ?_))
  show wpAny _ _ (Builtin.SmallTypes.nextOrEnd (.ref i1)) _ _ ⟨g0, g, d, tk0, os⟩
  refine noe (D1.done ⟨g0, g, d, tk0, os⟩ _ _ (D1.over st1 hs0 S.zf1) fun q e hq he => ⟨?_, ?_⟩)
  · obtain ⟨oe, hoe, hce⟩ := he
    exact ⟨_, oe, rfl, hoe, hce⟩
  · replace hq : Heap.ExtBut i1 g0 q := hq
    have hzq : IsZs q z TI TO .ellipsis := hq _ _ S.zi1 hz0
    refine wpAny_bind (wpAny_setField_rec (s := ⟨q, g, d, tk0, os⟩) hzq (by simp) fun q' _ hq' => ?_)
    replace hq' : Heap.SameBut z q q' := hq'
    refine wpAny_bind ?_
    show wpAny _ _ (forIn (([Value.ref i1, Value.ref i2].drop 1).zipIdx 1) PUnit.unit _ >>= _) _ _ _
    simp only [List.drop_succ_cons, List.drop_zero, List.zipIdx_cons, List.zipIdx_nil, List.forIn_cons, List.forIn_nil]
    have st2' : St2 n q' := D2.over (D2.frame _ _ _ (D2.over st2 hs0 S.zf2) fun b hb o e => hq b o (fun x => S.sep1_2 (x ▸ hb)) e) hq' S.zf2
    refine wpAny_bind (wpAny_bind (wpAny_bind (noe (D2.done ⟨q', g, d, tk0, os⟩ _ _ st2' fun q2 e2 hq2 he2 => ⟨?_, ?_⟩))))
    · obtain ⟨oe, hoe, hce⟩ := he2
      exact ⟨_, oe, rfl, hoe, hce⟩
    · replace hq2 : Heap.ExtBut i2 q' q2 := hq2
      rw [if_neg (by simp)]
      refine wpAny_pure (wpAny_pure ?_)
      refine wpAny_bind (wpAny_rule ?_)
      refine stop_new hh fun q3 e3 hk3 st3 => hE q3 tk0 e3 (fun c o cz cT c1 c2 x => hk3 c o (hq2 c o c2 (hq'.extBut _ _ cz (hq c o c1 (hs0.extBut _ _ cz x))))) st3
/-- one turn -/
theorem zs_item {Q : Value → Shared → Prop} {n1 n2 : Nat} (S : ZipSep2 z TI TO i1 i2 fp1 fp2) (D1 : Draws prog w A i1 fp1 n1 P1 St1) (D2 : Draws prog w A i2 fp2 n2 P2 St2)
    (hz : IsZs s.heap z TI TO .none) (hTI : IsTupOf2 s.heap TI (.ref i1) (.ref i2)) (hTO : IsTupOf2 s.heap TO a1 a2) (st1 : St1 i s.heap) (st2 : St2 i s.heap) (hlt1 : i < n1) (hlt2 : i < n2)
    (hQ : ∀ x1 x2 h' tk, P1 i x1 → P2 i x2 → IsZs h' z TI TO (rawInt s.heap.objs.size) → IsTupOf2 h' TO x1 x2 → St1 (i + 1) h' → St2 (i + 1) h' → IsTupOf2 h' s.heap.objs.size x1 x2 → h'.objs.size = s.heap.objs.size + 1 →
      (∀ c o, c ≠ z → c ≠ TO → c ≠ i1 → c ≠ i2 → s.heap.get? c = some o → h'.get? c = some o) → Q (.ref s.heap.objs.size) { s with heap := h', toks := tk }) :
    wpAny (model prog w) A (Builtin.«zip.__next__» ⟨[.ref z], []⟩) (fun fin s' => ∃ v, fin = .done (.ret v) ∧ Q v s') E s := by
  obtain ⟨hp, g, d, tk0, os⟩ := s
  show wpAny _ _ (field (.ref z) 2 >>= _) _ _ _
  refine wpAny_bind (wpAny_field hz rfl (x := .bool true) rfl ?_)
  show wpAny _ _ (field (.ref z) 3 >>= _) _ _ _
  refine wpAny_bind (wpAny_field hz rfl (x := .ref TI) rfl (wpAny_bind (wpAny_seqItems hTI rfl ?_)))
  show wpAny _ _ (Builtin.SmallTypes.ownedTupleIsFree (.ref z) >>= _) _ _ _
  refine wpAny_bind ?_
  unfold Builtin.SmallTypes.ownedTupleIsFree
  refine wpAny_bind (wpAny_field hz rfl (x := .none) rfl (wpAny_pure ?_))
  simp only [if_true]
  refine wpAny_bind (wpAny_rule (wpAny_bind (wpAny_field hz rfl (x := .ref TO) rfl (wpAny_bind (wpAny_setField_rec hz (by simp) fun g0 hz0 hs0 => ?_)))))
  replace hz0 : IsZs g0 z TI TO .ellipsis := hz0
  replace hs0 : Heap.SameBut z hp g0 := hs0
  refine wpAny_bind ?_
  simp only [List.zipIdx_cons, List.zipIdx_nil, List.forIn_cons, List.forIn_nil]
  refine wpAny_bind (wpAny_bind (wpAny_onRaise ?_))
  show wpAny _ _ (Builtin.SmallTypes.nextOrEnd (.ref i1)) _ _ ⟨g0, g, d, tk0, os⟩
  refine noe (D1.item i _ _ _ hlt1 (D1.over st1 hs0 S.zf1) fun x1 p1 tk1 hx1 sn1 hp1 => ?_)
  replace hp1 : Heap.SameBut i1 g0 p1 := hp1
  have hU1 : IsTupOf2 p1 TO a1 a2 := hp1.extBut _ _ S.Ti1 (hs0.extBut _ _ S.TOz hTO)
  refine wpAny_bind (wpAny_seqItems (s := ⟨p1, g, d, tk1, os⟩) hU1 rfl (wpAny_bind (updateSeq_IsTupOf2 (s := ⟨p1, g, d, tk1, os⟩) hU1 fun g1 hT1 hs1 => ?_)))
  replace hT1 : IsTupOf2 g1 TO x1 a2 := hT1
  replace hs1 : Heap.SameBut TO p1 g1 := hs1
  refine wpAny_bind (wpAny_letGo (wpAny_pure ?_))
  refine wpAny_bind (wpAny_bind (wpAny_onRaise ?_))
  show wpAny _ _ (Builtin.SmallTypes.nextOrEnd (.ref i2)) _ _ ⟨g1, g, d, tk1, os⟩
  refine noe (D2.item i _ _ _ hlt2 (D2.over (D2.over (D2.over st2 hs0 S.zf2) hp1 S.sep1_2) hs1 S.Tf2) fun x2 p2 tk2 hx2 sn2 hp2 => ?_)
  replace hp2 : Heap.SameBut i2 g1 p2 := hp2
  have hU2 : IsTupOf2 p2 TO x1 a2 := hp2.extBut _ _ S.Ti2 hT1
  refine wpAny_bind (wpAny_seqItems (s := ⟨p2, g, d, tk2, os⟩) hU2 rfl (wpAny_bind (updateSeq_IsTupOf2 (s := ⟨p2, g, d, tk2, os⟩) hU2 fun g2 hT2 hs2 => ?_)))
  replace hT2 : IsTupOf2 g2 TO x1 x2 := hT2
  replace hs2 : Heap.SameBut TO p2 g2 := hs2
  refine wpAny_bind (wpAny_letGo (wpAny_pure (wpAny_pure ?_)))
  refine wpAny_bind (wpAny_seqItems (s := ⟨g2, g, d, tk2, os⟩) hT2 rfl (wpAny_bind (wpAny_newTuple ?_)))
  have hsz : g2.objs.size = hp.objs.size := by rw [hs2.1, hp2.1, hs1.1, hp1.1, hs0.1]
  have hzz : IsZs g2 z TI TO .ellipsis := hs2.extBut _ _ S.TOz.symm (hp2.extBut _ _ S.zi2 (hs1.extBut _ _ S.TOz.symm (hp1.extBut _ _ S.zi1 hz0)))
  have hkk : ∀ c o, c ≠ z → c ≠ TO → c ≠ i1 → c ≠ i2 → hp.get? c = some o → g2.get? c = some o := fun c o cz cT c1 c2 e => hs2.extBut _ _ cT (hp2.extBut _ _ c2 (hs1.extBut _ _ cT (hp1.extBut _ _ c1 (hs0.extBut _ _ cz e))))
  have hj1 : St1 (i + 1) g2 := D1.over (D1.over (D1.over sn1 hs1 S.Tf1) hp2 S.sep2_1) hs2 S.Tf1
  have hj2 : St2 (i + 1) g2 := D2.over sn2 hs2 S.Tf2
  have hzlt : z < g2.objs.size := Heap.lt_size hzz
  show wpAny _ _ (Builtin.SmallTypes.ownedTupleHandOut (.ref z) (.ref g2.objs.size) >>= _) _ _ ⟨g2.push { cls := .type "tuple", data := .seq #[x1, x2] }, g, d, tk2, os⟩
  refine wpAny_bind ?_
  unfold Builtin.SmallTypes.ownedTupleHandOut
  have hz6 : IsZs (g2.push { cls := .type "tuple", data := .seq #[x1, x2] }) z TI TO .ellipsis := Heap.get?_push_of_some _ hzz
  refine wpAny_bind (wpAny_setField_rec hz6 (by simp) fun h7 hz7 hs7 => ?_)
  replace hz7 : IsZs h7 z TI TO (rawInt g2.objs.size) := hz7
  refine wpAny_setField_rec hz7 (by simp) fun h8 hz8 hs8 => ?_
  replace hz8 : IsZs h8 z TI TO (rawInt g2.objs.size) := hz8
  replace hs7 : Heap.SameBut z (g2.push { cls := .type "tuple", data := .seq #[x1, x2] }) h7 := hs7
  replace hs8 : Heap.SameBut z h7 h8 := hs8
  have up : ∀ c o, c ≠ z → g2.get? c = some o → h8.get? c = some o := fun c o c1 e => hs8.extBut _ _ c1 (hs7.extBut _ _ c1 (Heap.get?_push_of_some _ e))
  have hT8 : IsTupOf2 h8 g2.objs.size x1 x2 := hs8.extBut _ _ (Nat.ne_of_gt hzlt) (hs7.extBut _ _ (Nat.ne_of_gt hzlt) (Heap.get?_push_size _ rfl))
  have sz8 : h8.objs.size = g2.objs.size + 1 := by rw [hs8.1, hs7.1, Heap.size_push]
  rw [hsz] at hz8 hT8 sz8
  refine wpAny_pure ⟨_, rfl, ?_⟩
  show Q (.ref g2.objs.size) ⟨h8, g, d, tk2, os⟩
  rw [hsz]
  exact hQ x1 x2 h8 tk2 hx1 hx2 hz8 (up _ _ S.TOz hT2) (D1.frame _ _ _ hj1 fun b hb o e => up b o (fun q => S.zf1 (q ▸ hb)) e) (D2.frame _ _ _ hj2 fun b hb o e => up b o (fun q => S.zf2 (q ▸ hb)) e) hT8 sz8 fun c o cz cT c1 c2 e => up c o cz (hkk c o cz cT c1 c2 e)
/-- pyNext of it -/
theorem next_zs_item {Q : Option Value → Shared → Prop} {n1 n2 : Nat} (S : ZipSep2 z TI TO i1 i2 fp1 fp2) (D1 : Draws prog w A.in1 i1 fp1 n1 P1 St1) (D2 : Draws prog w A.in1 i2 fp2 n2 P2 St2)
    (hz : IsZs s.heap z TI TO .none) (hTI : IsTupOf2 s.heap TI (.ref i1) (.ref i2)) (hTO : IsTupOf2 s.heap TO a1 a2) (st1 : St1 i s.heap) (st2 : St2 i s.heap) (hlt1 : i < n1) (hlt2 : i < n2)
    (hQ : ∀ x1 x2 h' tk, P1 i x1 → P2 i x2 → IsZs h' z TI TO (rawInt s.heap.objs.size) → IsTupOf2 h' TO x1 x2 → St1 (i + 1) h' → St2 (i + 1) h' → IsTupOf2 h' s.heap.objs.size x1 x2 → h'.objs.size = s.heap.objs.size + 1 →
      (∀ c o, c ≠ z → c ≠ TO → c ≠ i1 → c ≠ i2 → s.heap.get? c = some o → h'.get? c = some o) → Q (some (.ref s.heap.objs.size)) { s with heap := h', toks := tk }) : wpAny (model prog w) A (pyNext (.ref z)) Q E s := by
  have hT : s.TypeIs (.ref z) "zip" := ⟨_, hz, rfl⟩
  unfold pyNext
  exact wpAny_bind (wpAny_attempt (wpAny_callSpecial?_slot (name := Str.ofString "__next__") hT F.slot_zip_next (wpAny_call_entry F.slot_zip_next hT F.entry_zip_next
    (zs_item S D1 D2 hz hTI hTO st1 st2 hlt1 hlt2 fun x1 x2 h' tk y1 y2 b1 b2 d1 d2 b5 b6 b7 => wpAny_pure (hQ x1 x2 h' tk y1 y2 b1 b2 d1 d2 b5 b6 b7)) (F.args_zip_next_1 _))))
theorem next_zs_end {Q : Option Value → Shared → Prop} (S : ZipSep2 z TI TO i1 i2 fp1 fp2) (D1 : Draws prog w A.in1 i1 fp1 n P1 St1) (D2 : Draws prog w A.in1 i2 fp2 n P2 St2)
    (hz : IsZs s.heap z TI TO .none) (hTI : IsTupOf2 s.heap TI (.ref i1) (.ref i2)) (hTO : IsTupOf2 s.heap TO a1 a2) (st1 : St1 n s.heap) (st2 : St2 n s.heap) (hh : A.in1.handled = none)
    (hQ : ∀ h' tk, (∀ c o, c ≠ z → c ≠ TO → c ≠ i1 → c ≠ i2 → s.heap.get? c = some o → h'.get? c = some o) → Q none { s with heap := h', toks := tk }) : wpAny (model prog w) A (pyNext (.ref z)) Q E s := by
  have hT : s.TypeIs (.ref z) "zip" := ⟨_, hz, rfl⟩
  unfold pyNext
  refine wpAny_bind (wpAny_attempt (wpAny_callSpecial?_slot (name := Str.ofString "__next__") hT F.slot_zip_next (wpAny_call_entry F.slot_zip_next hT F.entry_zip_next
    (zs_end hh S D1 D2 hz hTI hTO st1 st2 fun h' tk e hk he => ?_) (F.args_zip_next_1 _))))
  obtain ⟨ae, o, rfl, ho, hc⟩ := he
  exact wpAny_bind (wpAny_isInstance (T := "StopIteration") (b := true) ⟨o, ho, hc⟩ isSubtype_stop (wpAny_pure (hQ _ _ hk)))
theorem tc_zs (a b : Value) : checkTypeCall "zip" ⟨[a, b], [(Str.ofString "strict", .bool true)]⟩ = pure () := by kernel_rfl
theorem nc_zs (a b : Value) : checkBuiltinCall "zip.__new__" ⟨[.type "zip", a, b], [(Str.ofString "strict", .bool true)]⟩ = pure () := by kernel_rfl
theorem oi_zs (obj a b : Value) : argsOk "object.__init__" ⟨[obj, a, b], [(Str.ofString "strict", .bool true)]⟩ := by unfold argsOk; kernel_rfl
abbrev zsH5 (h : Heap) (l1 l2 : Addr) : Heap := (zmH4 h l1 l2).push { cls := .type "zip", data := .fields #[.none, .bool false, .bool true, .ref (zmH2 h l1 l2).objs.size, .ref (zmH3 h l1 l2).objs.size] }
theorem meets_zs (l1 l2 : Addr) (xs ys : Array Value) : Meets (Builtin.«zip.__new__» ⟨[.type "zip", .ref l1, .ref l2], [(Str.ofString "strict", .bool true)]⟩) (fun _ R s => s.heap.IsTuple l1 xs ∧ s.heap.IsList l2 ys ∧
    R (.ok (.ret (.ref (zmH4 s.heap l1 l2).objs.size))) { s with heap := zsH5 s.heap l1 l2 }) :=
  .of_wp fun prog w A R s h => by
    obtain ⟨hp, g, d, tk, os⟩ := s; obtain ⟨hl1, hl2, h⟩ := h
    have hsub := sub_zip
    have hL1 : Heap.IsTuple (Shared.heap ⟨hp, g, d, tk, os⟩) l1 xs := hl1
    have hL2 : Heap.IsList (Shared.heap ⟨hp.push { cls := .type "tuple_iterator", data := .fields #[.ref l1, .int 0 0] }, g, d, tk, os⟩) l2 ys := Heap.IsList.push hl2 _
    wp_walk using wpAny_pyIter_tuple hL1, wpAny_pyIter_list hL2
    exact ⟨_, rfl, h⟩
theorem call_zs {l1 l2 : Addr} {xs ys : Array Value} {Q : Value → Shared → Prop} (hl1 : s.heap.IsTuple l1 xs) (hl2 : s.heap.IsList l2 ys)
    (h : ∀ h', IsZs h' (s.heap.objs.size + 4) (s.heap.objs.size + 2) (s.heap.objs.size + 3) .none → IsPair h' (s.heap.objs.size + 2) (.ref s.heap.objs.size) (.ref (s.heap.objs.size + 1)) →
      IsPair h' (s.heap.objs.size + 3) .none .none → h'.IsTupleIter s.heap.objs.size l1 0 → h'.IsListIter (s.heap.objs.size + 1) l2 0 →
      (∀ c o, s.heap.get? c = some o → h'.get? c = some o) → Q (.ref (s.heap.objs.size + 4)) { s with heap := h' }) :
    wpAny (model prog w) A (call (.type "zip") [.ref l1, .ref l2] [(Str.ofString "strict", .bool true)]) Q E s := by
  refine callType_newKw F.called_zip (by decide) (tc_zs _ _) (nc_zs _ _) (fun obj => oi_zs obj _ _) F.entry_zip_new (meets_zs l1 l2 xs ys) ⟨hl1, hl2, ?_⟩
  have z1 : (zmH1 s.heap l1).objs.size = s.heap.objs.size + 1 := Heap.size_push ..
  have z2 : (zmH2 s.heap l1 l2).objs.size = s.heap.objs.size + 2 := by rw [Heap.size_push, z1]
  have z3 : (zmH3 s.heap l1 l2).objs.size = s.heap.objs.size + 3 := by rw [Heap.size_push, z2]
  have z4 : (zmH4 s.heap l1 l2).objs.size = s.heap.objs.size + 4 := by rw [Heap.size_push, z3]
  have up : ∀ {h : Heap} {o : Obj} {c : Addr} {u : Obj}, h.get? c = some u → (h.push o).get? c = some u := fun e => Heap.get?_push_of_some _ e
  have g5 : (zsH5 s.heap l1 l2).get? (zmH4 s.heap l1 l2).objs.size = some _ := Heap.get?_push_size _ rfl
  have g4 : (zsH5 s.heap l1 l2).get? (zmH3 s.heap l1 l2).objs.size = some _ := up (Heap.get?_push_size _ rfl)
  have g3 : (zsH5 s.heap l1 l2).get? (zmH2 s.heap l1 l2).objs.size = some _ := up (up (Heap.get?_push_size _ rfl))
  have g2 : (zsH5 s.heap l1 l2).get? (zmH1 s.heap l1).objs.size = some _ := up (up (up (Heap.get?_push_size _ rfl)))
  have g1 : (zsH5 s.heap l1 l2).get? s.heap.objs.size = some _ := up (up (up (up (Heap.get?_push_size _ rfl))))
  show _ ∧ _
  rw [z2, z3, z4] at g5
  rw [z1, z2] at g3
  rw [z3] at g4
  rw [z1] at g2
  rw [z4]
  exact ⟨⟨_, g5, rfl⟩, h _ g5 g3 g4 ⟨_, g1, rfl, rfl⟩ ⟨_, g2, rfl, rfl⟩ fun c o x => up (up (up (up (up x))))⟩
end
/-- the tuple at a and the list at b, as long, as they stand at each turn, the items in new pairs -/
def ItzS (K : PySem.W.Frag) (a b : Addr) : It :=
  ⟨fun i H => ∃ (xs ys : List V) (x y : V), SqT K H a xs ∧ SqL K H b ys ∧ xs[i]? = some x ∧ ys[i]? = some y,
    fun i H v H' => ∃ T x y, v = .ref T ∧ H T = none ∧ H' = upd H T (.tup [x, y]) ∧ (∀ xs, SqT K H a xs → xs[i]? = some x) ∧ ∀ ys, SqL K H b ys → ys[i]? = some y,
    fun i H => ∃ xs ys : List V, SqT K H a xs ∧ SqL K H b ys ∧ xs.length = i ∧ ys.length = i⟩
theorem turn_zs {P : Program} {w : World} {K : PySem.W.Frag} {elts : List Expr} {kk : Nat} {tpos : Pos} {a b z TI TO i1 i2 : Addr} (D : ZipSep2 z TI TO i1 i2 [i1, a] [i2, b]) :
    Turn P w K (.Tuple elts kk tpos) (ItzS K a b) [z, TI, TO, i1, i2] z (fun i h => IsZs h z TI TO .none ∧ IsPair h TI (.ref i1) (.ref i2) ∧ (∃ x y, IsPair h TO x y) ∧ h.IsTupleIter i1 a i ∧ h.IsListIter i2 b i) where
  mem := by simp
  obj := fun i h st c hc => by
    obtain ⟨hz, hTI, ⟨x, y, hTO⟩, ⟨o1, e1, _, d1⟩, ⟨o2, e2, _, d2⟩⟩ := st
    have e' : c = z ∨ c = TI ∨ c = TO ∨ c = i1 ∨ c = i2 := by simpa using hc
    rcases e' with q | q | q | q | q
    · rw [q]; exact ⟨_, hz, fun v q => nomatch q⟩
    · rw [q]; exact ⟨_, hTI, fun v q => nomatch q⟩
    · rw [q]; exact ⟨_, hTO, fun v q => nomatch q⟩
    · rw [q]; exact ⟨o1, e1, fun v q => by rw [d1] at q; cases q⟩
    · rw [q]; exact ⟨o2, e2, fun v q => by rw [d2] at q; cases q⟩
  keep := fun i h h' st k => by
    obtain ⟨hz, hTI, ⟨x, y, hTO⟩, h1, h2⟩ := st
    exact ⟨k z (by simp) _ hz, k TI (by simp) _ hTI, ⟨x, y, k TO (by simp) _ hTO⟩, h1.at fun o q => k i1 (by simp) o q, h2.at fun o q => k i2 (by simp) o q⟩
  item := by
    intro X hP hw hK hc i pins s σ H E I hf st hg
    subst hP hw hK
    obtain ⟨hz, hTI, ⟨x0, y0, hTO⟩, h1, h2⟩ := st
    obtain ⟨xs, ys, x, y, hqx, hqy, hx, hy⟩ := hg
    obtain ⟨its, rv, p, _⟩ := I.tuple hqx
    obtain ⟨its2, rv2, p2, _⟩ := I.list hqy
    obtain ⟨u, hu, ru⟩ := rv.get hx
    obtain ⟨u2, hu2, ru2⟩ := rv2.get hy
    have hzl : z < s.heap.objs.size := Heap.lt_size hz
    have hh : X.A.in1.handled = none := I.ok.hd hc
    have ne1 : a ≠ i1 := fun e => by have := D.sep1_2; obtain ⟨o, ho, c1, _⟩ := h1; obtain ⟨o', ho', c2, _⟩ := (show s.heap.IsTuple a its.toArray from p); rw [e, ho] at ho'; cases ho'; rw [c1] at c2; exact absurd (Value.type.inj c2) (by decide)
    have ne2 : b ≠ i2 := fun e => by obtain ⟨o, ho, c1, _⟩ := h2; obtain ⟨o', ho', c2, _⟩ := p2.isList; rw [e, ho] at ho'; cases ho'; rw [c1] at c2; exact absurd (Value.type.inj c2) (by decide)
    have D1 := draws_tuple (prog := X.prog) (w := X.w) hh i1 a ne1 its.toArray
    have D2 := Draws.list (prog := X.prog) (w := X.w) hh i2 b ne2 its2.toArray
    have li : i < its.toArray.size := by have := (List.getElem?_eq_some_iff.mp hu).1; simpa using this
    have li2 : i < its2.toArray.size := by have := (List.getElem?_eq_some_iff.mp hu2).1; simpa using this
    refine next_zs_item D D1 D2 hz hTI hTO ⟨h1, p⟩ ⟨h2, p2.isList⟩ li li2 fun x1 x2 h' tk q1 q2 z' TO' st1 st2 hT hsz hk => ?_
    have eu : x1 = u := by rw [List.getElem?_toArray, hu] at q1; exact (Option.some.inj q1).symm
    have eu2 : x2 = u2 := by rw [List.getElem?_toArray, hu2] at q2; exact (Option.some.inj q2).symm
    subst eu eu2
    refine ⟨_, rfl, go_zs (s := { s with heap := h', toks := tk }) z' fun h'' z'' sb => ?_⟩
    have hT2 : h''.get? s.heap.objs.size = some { cls := .type "tuple", data := .seq #[x1, x2] } := (sb.2 _ (Nat.ne_of_gt hzl)).trans hT
    have new : ObjOk X.prog X.w (upd H s.heap.objs.size (.tup [x, y])) h'' s.heap.objs.size (.tup [x, y]) :=
      ⟨by show 2 ≤ sizeLine; decide, [x1, x2], .cons ru (.cons ru2 .nil), ⟨_, hT2, rfl, _, rfl⟩⟩
    have I1 : Inv X pins σ (upd H s.heap.objs.size (.tup [x, y])) { s with heap := h'', toks := tk } :=
      I.turnedNew (t' := tk) (ch := [z, TI, TO, i1, i2]) (fun c o hb q => (sb.2 c (fun q' => hb (by simp [q']))).trans (hk c o (fun q' => hb (by simp [q'])) (fun q' => hb (by simp [q'])) (fun q' => hb (by simp [q'])) (fun q' => hb (by simp [q'])) q)) hf (Nat.le_refl _) new
    refine ⟨.ref s.heap.objs.size, _, I1, rfl, ⟨_, x, y, rfl, I.hok.fresh (Nat.le_refl _), rfl, fun l hl => by rw [I.tuple_inj hl hqx]; exact hx, fun l hl => by rw [I.list_inj hl hqy]; exact hy⟩, ⟨z'', ?_, ⟨x1, x2, ?_⟩, ?_, ?_⟩, fun c hcm => ?_⟩
    · exact (sb.2 _ D.TIz).trans (hk _ _ D.TIz D.TITO D.TIi1 D.TIi2 hTI)
    · exact (sb.2 _ D.TOz).trans TO'
    · exact st1.1.at fun o q => (sb.2 _ (fun e => D.zi1 e.symm)).trans q
    · exact st2.1.at fun o q => (sb.2 _ (fun e => D.zi2 e.symm)).trans q
    · have hlt : c < s.heap.objs.size := by
        have e' : c = z ∨ c = TI ∨ c = TO ∨ c = i1 ∨ c = i2 := by simpa using hcm
        rcases e' with q | q | q | q | q
        · rw [q]; exact hzl
        · rw [q]; exact Heap.lt_size hTI
        · rw [q]; exact Heap.lt_size hTO
        · rw [q]; obtain ⟨_, e1, _⟩ := h1; exact Heap.lt_size e1
        · rw [q]; obtain ⟨_, e2, _⟩ := h2; exact Heap.lt_size e2
      rw [upd_ne (Nat.ne_of_lt hlt)]
      exact (hf c hcm).1
  done := by
    intro X hP hw hK hc i pins s σ H E I hf st hg
    subst hP hw hK
    obtain ⟨hz, hTI, ⟨x0, y0, hTO⟩, h1, h2⟩ := st
    obtain ⟨xs, ys, hqx, hqy, le1, le2⟩ := hg
    obtain ⟨its, rv, p, _⟩ := I.tuple hqx
    obtain ⟨its2, rv2, p2, _⟩ := I.list hqy
    have l1 := rv.length
    have l2 := rv2.length
    have hh : X.A.in1.handled = none := I.ok.hd hc
    have ne1 : a ≠ i1 := fun e => by obtain ⟨o, ho, c1, _⟩ := h1; obtain ⟨o', ho', c2, _⟩ := (show s.heap.IsTuple a its.toArray from p); rw [e, ho] at ho'; cases ho'; rw [c1] at c2; exact absurd (Value.type.inj c2) (by decide)
    have ne2 : b ≠ i2 := fun e => by obtain ⟨o, ho, c1, _⟩ := h2; obtain ⟨o', ho', c2, _⟩ := p2.isList; rw [e, ho] at ho'; cases ho'; rw [c1] at c2; exact absurd (Value.type.inj c2) (by decide)
    have D1 := draws_tuple (prog := X.prog) (w := X.w) hh i1 a ne1 its.toArray
    have D2 := Draws.list (prog := X.prog) (w := X.w) hh i2 b ne2 its2.toArray
    rw [show its.toArray.size = i by simp; omega] at D1
    rw [show its2.toArray.size = i by simp; omega] at D2
    exact next_zs_end D D1 D2 hz hTI hTO ⟨h1, p⟩ ⟨h2, p2.isList⟩ hh
      fun h' tk hk => ⟨rfl, I.turnedL (t' := tk) (ch := [z, TI, TO, i1, i2]) (fun c o hb q =>
        hk c o (fun q' => hb (by simp [q'])) (fun q' => hb (by simp [q'])) (fun q' => hb (by simp [q'])) (fun q' => hb (by simp [q'])) q) hf⟩
  self := fun A i s Q E st h => iter_zs st.1 h
def iZipS (K : PySem.W.Frag) (ta tk : TA) : TI := fun σ H R => ta σ H fun vs H1 => tk σ H1 fun zs H2 => ∃ a b xs ys, vs = [.ref a, .ref b] ∧ zs = [.bl true] ∧ SqT K H2 a xs ∧ SqL K H2 b ys ∧ xs.length = ys.length ∧ R (ItzS K a b) H2
/-- .. by data -/
def qiZipS (qa qk : DTA) : DTI := fun DW p M R => qa DW p M fun ds M1 => qk DW p M1 fun zs M2 => zs = [.bl true] ∧ match ds with
  | [x, y] => match tupAt x, lstAt M2 y with
    | some es, some (fs, Sty) => es.length = fs.length ∧ R (zipD es fs) Sty M2
    | _, _ => False
  | _ => False
section
variable {X : Cx} {W : WX} {e e2 : Expr} {kws : List Keyword} {ta tk : TA} {qa qk : DTA} {p pos tpos : Pos} {elts : List Expr} {kk : Nat}
theorem qi_zipS (hg : Gl X "zip") (hm : X.mg "zip" = none) (ha : QA X W [e, e2] ta qa) (hk : QK X W kws tk qk)
    (hs : starEach [e, e2] X.env = (false, eval e X.env) :: starEach [e2] X.env := by rfl) (hpl : (backTo pos (starEach [e, e2] X.env)).any (·.1) = false := by rfl)
    (hall : (backToKw pos (keywordEach kws X.env)).all (·.1.isSome) = true := by rfl) (hnone : (backToKw pos (keywordEach kws X.env)).any (·.1.isNone) = false := by rfl)
    (hks : (backToKw pos (keywordEach kws X.env)).filterMap (·.1) = [Str.ofString "strict"] := by rfl) :
    QI X W (.Tuple elts kk tpos) (.Call (.Name "zip" p) [e, e2] kws pos) (iZipS X.K ta tk) (qiZipS qa qk) := by
  refine ⟨⟨fun pins s σ H R I h => ?_⟩, fun DW G H p M s R R' hw S h k => ha.rf DW G H p M s _ _ hw S h fun G1 H1 M1 ds vs e1 S1 r1 h1 => hk.rf DW G1 H1 p M1 s _ _ (hw.mono e1) S1 h1 fun G2 H2 M2 zs us e2 S2 r2 h2 => ?_⟩
  · refine wpAny_Call_Name_kw (ld_blt I hg hm PyProof.Rows.boot_zip ?_)
    refine callWith_type_kw (thn (ha.pe.run pos pins s σ H _ I h) fun us s0 ⟨vs, H0, I0, r1, q0⟩ => thn (hk.pe.run pos pins s0 σ H0 _ I0 q0) fun ws s1 ⟨zs, H1, I1, r2, q1⟩ => ?_) hs hpl hall hnone
    rw [hks]
    obtain ⟨a, b, xs, ys, ex, ez, hqx, hqy, hl, q⟩ := q1
    subst ex ez
    cases r1 with
    | cons r rr =>
    cases rr with
    | cons r' rr =>
      cases rr
      cases r
      cases r'
      obtain ⟨w1, rfl, ew⟩ := vals1 r2
      obtain rfl : w1 = Value.bool true := ew
      have fresh5 : ∀ c, c ∈ [s1.heap.objs.size + 4, s1.heap.objs.size + 2, s1.heap.objs.size + 3, s1.heap.objs.size, s1.heap.objs.size + 1] → FpOk X pins H1 c := fun c hcm => by
        have hle : s1.heap.objs.size ≤ c := by
          have e' : c = s1.heap.objs.size + 4 ∨ c = s1.heap.objs.size + 2 ∨ c = s1.heap.objs.size + 3 ∨ c = s1.heap.objs.size ∨ c = s1.heap.objs.size + 1 := by simpa using hcm
          rcases e' with z | z | z | z | z <;> rw [z] <;> first | exact Nat.le_add_right _ _ | exact Nat.le_refl _
        exact I1.fpOk hle (I1.hok.fresh hle)
      obtain ⟨its, rv, p1, _⟩ := I1.tuple hqx
      obtain ⟨its2, rv2, p2, _⟩ := I1.list hqy
      obtain ⟨o1, ho1, _⟩ := id p1
      refine call_zs (show s1.heap.IsTuple a its.toArray from p1) p2.isList fun h' hz hTI hTO h1 h2 hk => iter_zs hz ?_
      have I2 : Inv X pins σ H1 { s1 with heap := h' } := I1.kept (t' := s1.toks) hk
      exact ⟨s1.heap.objs.size + 4, [s1.heap.objs.size + 4, s1.heap.objs.size + 2, s1.heap.objs.size + 3, s1.heap.objs.size, s1.heap.objs.size + 1], _, _, H1, rfl, I2, turn_zs (zsep (Heap.lt_size ho1) p2.lt), ⟨hz, hTI, ⟨_, _, hTO⟩, h1, h2⟩, fresh5, q⟩
  · obtain ⟨ez, h2⟩ := h2
    subst ez
    obtain ⟨vb, rfl, rb⟩ := repL1 r2
    cases rb
    split at h2
    · next x y =>
      obtain ⟨v, u, rfl, r2, r3⟩ := repL2 (RepL.mono e2 _ _ r1)
      split at h2
      · next es fs Sty el1 el2 =>
        obtain ⟨hlen, h2⟩ := h2
        obtain ⟨a, us, rfl, c1, c2, len1⟩ := tupAt_of r2 el1
        obtain ⟨hst, b, rfl, len2, lk⟩ := lstAt_of S2 r3 el2
        obtain ⟨ws, w1, w0⟩ := lk G2 H2 p M2 s (Same.refl _) S2 hst
        refine ⟨a, b, us, ws, rfl, rfl, same_t S2.same c1, w1, by rw [c2.length, w0.length]; exact hlen, k G2 H2 M2 _ _ _ (e1.trans e2) S2 ⟨fun G' H' p M s i e S st hi => ?_, fun G' H' p M s i x H' e S st y d hd => ?_, fun G' H' p M s e S st => ?_⟩ (by rw [zipD_length]; omega) h2⟩
        · obtain ⟨ws, d1, d2⟩ := lk G' _ p M s e S st
          rw [zipD_length] at hi
          obtain ⟨x, hx⟩ := get_lt (xs := us) (i := i) (by rw [c2.length]; omega)
          obtain ⟨y, hy⟩ := get_lt (xs := ws) (i := i) (by rw [d2.length]; omega)
          exact ⟨us, ws, x, y, same_t (e.trans S.same) c1, d1, hx, hy⟩
        · obtain ⟨ws, d1, d2⟩ := lk G' _ p M s e S st
          obtain ⟨T, x', y', rfl, hT, rfl, y1, y2⟩ := y
          rw [zipD_get] at hd
          split at hd
          · next d' d'' ed1 ed2 =>
            cases hd
            obtain ⟨w, w1, w2⟩ := c2.get ed1
            rw [y1 us (same_t (e.trans S.same) c1)] at w1; cases w1
            obtain ⟨w, w1, w3⟩ := d2.get ed2
            rw [y2 ws d1] at w1; cases w1
            obtain ⟨e3, S3⟩ := S.made (o := .tup [x', y']) hT
            exact ⟨_, e3, S3, T, _, rfl, upd_same, RepL.mono e3 _ _ (RepL.cons (Rep.mono e _ _ w2) (RepL.cons w3 rfl)), sz1000 (by simp)⟩
          · cases hd
        · obtain ⟨ws, d1, d2⟩ := lk G' _ p M s e S st
          refine ⟨us, ws, same_t (e.trans S.same) c1, d1, ?_⟩
          rw [zipD_length, c2.length, d2.length]; omega
      · exact h2.elim
    · exact h2.elim
end
end DL
namespace DL
open PySem L2 Tx20 Tx21
abbrev Eng := Str × Str × Str × Int
def egD (e : Eng) : D := .tup [.str e.1, .str e.2.1, .str e.2.2.1, .int e.2.2.2]
inductive HDeed where
  | call (p kd : Str) | again (n : Int) | make (n m : Int) | stop (n : Int) | send (e : Str) (n : Int) | there (e : Str) | back (e : Str) | home (e : Str) | off (e : Str) | on (e : Str)
  | stand (e s : Str) | lend (e s : Str) | shut (r : Int) | clear (r : Int) | nothing
  deriving DecidableEq
def HDeed.word : HDeed → Str
  | .call _ _ => PySem.Str.ofString "call" | .again _ => PySem.Str.ofString "again" | .make _ _ => PySem.Str.ofString "make" | .stop _ => PySem.Str.ofString "stop" | .send _ _ => PySem.Str.ofString "send"
  | .there _ => PySem.Str.ofString "there" | .back _ => PySem.Str.ofString "back" | .home _ => PySem.Str.ofString "home" | .off _ => PySem.Str.ofString "off" | .on _ => PySem.Str.ofString "on"
  | .stand _ _ => PySem.Str.ofString "stand" | .lend _ _ => PySem.Str.ofString "lend" | .shut _ => PySem.Str.ofString "shut" | .clear _ => PySem.Str.ofString "clear" | .nothing => PySem.Str.ofString "nothing"
def HDeed.args : HDeed → List D
  | .call p kd => [.str p, .str kd] | .again n => [.int n] | .make n m => [.int n, .int m] | .stop n => [.int n] | .send e n => [.str e, .int n]
  | .there e => [.str e] | .back e => [.str e] | .home e => [.str e] | .off e => [.str e] | .on e => [.str e]
  | .stand e s => [.str e, .str s] | .lend e s => [.str e, .str s] | .shut r => [.int r] | .clear r => [.int r] | .nothing => []
def HDeed.d (x : HDeed) : D := .tup (.str x.word :: x.args)
end DL
namespace DL
open PySem L2 Tx20 Tx21
/-- a pair of places by numbers -/
abbrev Pr_ := Nat × Nat
structure PrsOk (m : Nat) (l : List Pr_) : Prop where
  lt : ∀ x ∈ l, x.1 < m ∧ x.2 < m ∧ x.1 ≠ x.2
  pw : l.Pairwise fun a b => ¬ (a = b ∨ a = (b.2, b.1))
theorem PrsOk.nil {m : Nat} : PrsOk m [] := ⟨(fun _ h => nomatch h), List.Pairwise.nil⟩
end DL
namespace DL
open PySem L2 Tx20 Tx21
def qCEngines (sp__law_names : DSp) (sp__law_take : DSp) : DTS :=
  (qSeq (qAsg (qCall sp__law_names [] (qCons (qVar 0) (qCons (qC (.int 24)) qNil))) (gNameD 3))
  (qSeq (qAsg (qLst true qNil) (gNameD 4))
  (qSeq (qFor (qiRng1 (qCons (qCall sp__law_take [] (qCons (qVar 0) (qCons (qOp (dAdd false) (qVar 2) (qC (.int 1))) qNil))) qNil)) (gNameD 5)
  (qSeq (qAsg (qOp dIx (qTup (qCons (qC (.str (PySem.Str.ofString "pump"))) (qCons (qC (.str (PySem.Str.ofString "ladder"))) (qCons (qC (.str (PySem.Str.ofString "tanker"))) qNil)))) (qCall sp__law_take [] (qCons (qVar 0) (qCons (qC (.int 3)) qNil)))) (gNameD 6))
  (qSeq (qAsg (qOp (dAdd false) (qC (.int 1)) (qCall sp__law_take [] (qCons (qVar 0) (qCons (qOp dIx (qTup (qCons (qC (.int 9)) (qCons (qC (.int 2)) qNil))) (qCall sp__law_take [] (qCons (qVar 0) (qCons (qC (.int 2)) qNil)))) qNil)))) (gNameD 7))
  (qDrop (qBM "list" mApp (qVar 4) (qCons (qTup (qCons (qOp dIx (qVar 3) (qVar 5)) (qCons (qVar 6) (qCons (qOp dIx (qVar 1) (qCall sp__law_take [] (qCons (qVar 0) (qCons (qCB dLen (qCons (qVar 1) qNil)) qNil)))) (qCons (qVar 7) qNil))))) qNil))))))
  (qRet (qCB dTuple (qCons (qVar 4) qNil))))))
def qCHands (sp__law_take : DSp) : DTS :=
  (qSeq (qAsg (qC (.str (PySem.Str.ofString "abcdefghijklmnopqrstuvwxyz"))) (gNameD 3))
  (qSeq (qAsg (qCall sp__law_take [] (qCons (qVar 0) (qCons (qC (.int 26)) qNil))) (gNameD 4))
  (qSeq (qAsg (qBM "str" mJoin (qC (.str (PySem.Str.ofString ""))) (qCons (qLc false (qiRng1 (qCons (qC (.int 5)) qNil)) (gNameD 7) qYes (qOp dIx (qVar 3) (qCall sp__law_take [] (qCons (qVar 0) (qCons (qC (.int 26)) qNil)))) [7]) qNil)) (gNameD 5))
  (qSeq (qAsg (qLst true qNil) (gNameD 6))
  (qSeq (qFor (qiRng1 (qCons (qCall sp__law_take [] (qCons (qVar 0) (qCons (qOp (dAdd false) (qVar 2) (qC (.int 1))) qNil))) qNil)) (gNameD 7)
  (qSeq (qAsg (qOp (dAdd false) (qOp dIx (qVar 3) (qOp (dInt (fun _ j => 0 < j) fun i j => i % j) (qOp (dAdd false) (qVar 4) (qOp (dInt CMul fun i j => i * j) (qC (.int 5)) (qVar 7))) (qC (.int 26)))) (qOp dIx (qVar 3) (qOp (dInt (fun _ j => 0 < j) fun i j => i % j) (qOp (dInt CDiv fun i j => i / j) (qOp (dAdd false) (qOp (dInt CMul fun i j => i * j) (qC (.int 3)) (qVar 4)) (qVar 7)) (qC (.int 26))) (qC (.int 26))))) (gNameD 8))
  (qSeq (qAsg (qOp (dAdd false) (qVar 8) (qSl false (qVar 5) qNoPart (qPart (qCall sp__law_take [] (qCons (qVar 0) (qCons (qC (.int 6)) qNil)))))) (gNameD 8))
  (qSeq (qAsg (qLst true qNil) (gNameD 9))
  (qSeq (qFor (qiRng1 (qCons (qCall sp__law_take [] (qCons (qVar 0) (qCons (qOp dIx (qTup (qCons (qC (.int 3)) (qCons (qC (.int 6)) qNil))) (qCall sp__law_take [] (qCons (qVar 0) (qCons (qC (.int 2)) qNil)))) qNil))) qNil)) (gNameD 10)
  (qSeq (qAsg (qOp dIx (qTup (qCons (qC (.str (PySem.Str.ofString "drive"))) (qCons (qC (.str (PySem.Str.ofString "lead"))) (qCons (qC (.str (PySem.Str.ofString "wear"))) (qCons (qC (.str (PySem.Str.ofString "drive"))) qNil))))) (qCall sp__law_take [] (qCons (qVar 0) (qCons (qC (.int 4)) qNil)))) (gNameD 11))
  (qDrop (qBM "list" mApp (qVar 9) (qCons (qTup (qCons (qVar 11) (qCons (qCall sp__law_take [] (qCons (qVar 0) (qCons (qC (.int 10)) qNil))) qNil))) qNil)))))
  (qDrop (qBM "list" mApp (qVar 6) (qCons (qTup (qCons (qVar 8) (qCons (qOp dIx (qVar 1) (qCall sp__law_take [] (qCons (qVar 0) (qCons (qCB dLen (qCons (qVar 1) qNil)) qNil)))) (qCons (qCall sp__law_take [] (qCons (qVar 0) (qCons (qC (.int 4)) qNil))) (qCons (qCB dTuple (qCons (qVar 9) qNil)) qNil))))) qNil))))))))
  (qRet (qCB dTuple (qCons (qVar 6) qNil))))))))
structure EngK (ss : List Str) (es : List Eng) : Prop where
  nd : (es.map (·.1)).Nodup
  nm : ∀ e ∈ es, nameS e.1 = true
  st : ∀ e ∈ es, e.2.2.1 ∈ ss
  se : ∀ e ∈ es, 1 ≤ e.2.2.2 ∧ e.2.2.2 ≤ 9
  le : es.length ≤ 24
def spCEngines : DSp := fun ds M Q _ => ∃ (b : Addr) (zs : List Str), ds = [.ref b, .xtp (zs.map .str), .int 24] ∧ M b = some .bag ∧ zs ≠ [] ∧ zs.length ≤ 12 ∧ ∀ es, EngK zs es → Q (.tup (es.map egD)) M
theorem cengines_ok (ds : List D) (M : Mst) (Q : DK) (Ed : DX → Mst → Prop) (h : upSp spCEngines ds M Q Ed) : qCEngines spLNames spTake (fun x _ M => Ed x M) (retE Q) (startD ["_law_bag_here", "_law_stations", "_law_most", "_law_names_here", "_law_found", "_law_k", "_law_sort", "_law_seats"] ds) M := by
  obtain ⟨Q0, E0, ⟨b, zs, rfl, hb, hz, zl, k0⟩, kq, _⟩ := h
  have k : ∀ (es : List Eng) M', Sub M M' → EngK zs es → Q (.tup (es.map egD)) M' := fun es M' S f => kq _ _ _ S (k0 es f)
  have z0 : 0 < zs.length := List.length_pos_iff.mpr hz
  show qCEngines _ _ _ _ [some (.ref b), some (.xtp (zs.map .str)), some (.int 24), none, none, none, none, none] M
  simp only [qCEngines, newL_t, qSeq, qAsg, qTup, qCons, qNil, qOp, qUn, qC, qCall, qVar, qLst, newL_f, qIfS, qTB, qNext, qRet, qDrop, qFor, qCB, qAug, qSl, qPart, qNoPart, gNameD, gSub_eq, dInt_i, dInt0_i, dAdd_i, dCmpI_i, List.set_cons_zero, List.set_cons_succ, List.getElem?_cons_zero, List.getElem?_cons_succ, List.append_nil, z_l0, z_l1, z_l2, z_l3, z_l4, z_l5, z_l6, z_l7, z_l8, z_l9, z_l19, z_l24, z_l25, true_and]
  refine ⟨b, 24, rfl, hb, by decide, fun ns nl nd nm => fun l hl => ?_⟩
  have nbl := ne_of_some hb hl
  simp only [qiRng1, qSeq, qAsg, qTup, qCons, qNil, qOp, qUn, qC, qCall, qVar, qLst, newL_f, qIfS, qTB, qNext, qRet, qDrop, qFor, qCB, qAug, qSl, qPart, qNoPart, gNameD, gSub_eq, dInt_i, dInt0_i, dAdd_i, dCmpI_i, List.set_cons_zero, List.set_cons_succ, List.getElem?_cons_zero, List.getElem?_cons_succ, List.append_nil, z_l0, z_l1, z_l2, z_l3, z_l4, z_l5, z_l6, z_l7, z_l8, z_l9, z_l19, z_l24, z_l25, true_and]
  refine take_call (put_keep hb hl) (by decide) (by decide) fun t t0 t1 => ⟨by omega, by omega, ?_⟩
  refine loopL_inv (fun i p M' => ∃ (es : List Eng) (x5 x6 x7 : Option D), p = [some (.ref b), some (.xtp (zs.map .str)), some (.int 24), some (stL ns), some (.ref l), x5, x6, x7] ∧ M' = put M l (.lst (es.map egD)) ∧ es.map (·.1) = ns.take i ∧ ∀ e ∈ es, e.2.2.1 ∈ zs ∧ 1 ≤ e.2.2.2 ∧ e.2.2.2 ≤ 9) (n := t.toNat) (by simp) (fun i d p M' R hd hI hR => ?_) (fun p M' hI => ?_)
    ⟨[], none, none, none, rfl, rfl, rfl, fun _ h => by cases h⟩
  · obtain ⟨es, x5, x6, x7, rfl, rfl, el, hf⟩ := hI
    obtain ⟨hi, rfl⟩ := range_at hd
    have hi : i < 24 := by omega
    have hb' : put M l (.lst (es.map egD)) b = some .bag := put_keep hb hl
    refine ⟨trivial, ?_⟩
    simp only [qBM, qSeq, qAsg, qTup, qCons, qNil, qOp, qUn, qC, qCall, qVar, qLst, newL_f, qIfS, qTB, qNext, qRet, qDrop, qFor, qCB, qAug, qSl, qPart, qNoPart, gNameD, gSub_eq, dInt_i, dInt0_i, dAdd_i, dCmpI_i, List.set_cons_zero, List.set_cons_succ, List.getElem?_cons_zero, List.getElem?_cons_succ, List.append_nil, z_l0, z_l1, z_l2, z_l3, z_l4, z_l5, z_l6, z_l7, z_l8, z_l9, z_l19, z_l24, z_l25, true_and]
    refine take_call hb' (by decide) (by decide) fun r r0 r1 => pick_t r0 (by simpa using r1) fun d hd => ?_
    obtain ⟨so, rfl⟩ : ∃ so, d = .str so := by
      simp only [List.mem_cons, List.not_mem_nil, or_false] at hd
      rcases hd with rfl | rfl | rfl <;> exact ⟨_, rfl⟩
    refine take_call hb' (by decide) (by decide) fun r r0 r1 => pick_t r0 (by simpa using r1) fun d hd => ?_
    obtain ⟨q, rfl, q1, q2⟩ : ∃ q : Int, d = .int q ∧ 0 < q ∧ q ≤ 9 := by
      simp only [List.mem_cons, List.not_mem_nil, or_false] at hd
      rcases hd with rfl | rfl <;> exact ⟨_, rfl, by decide, by decide⟩
    refine take_call hb' q1 (by omega) fun s s0 s1 => ?_
    simp only [qSeq, qAsg, qTup, qCons, qNil, qOp, qUn, qC, qCall, qVar, qLst, newL_f, qIfS, qTB, qNext, qRet, qDrop, qFor, qCB, qAug, qSl, qPart, qNoPart, gNameD, gSub_eq, dInt_i, dInt0_i, dAdd_i, dCmpI_i, List.set_cons_zero, List.set_cons_succ, List.getElem?_cons_zero, List.getElem?_cons_succ, List.append_nil, z_l0, z_l1, z_l2, z_l3, z_l4, z_l5, z_l6, z_l7, z_l8, z_l9, z_l19, z_l24, z_l25, true_and]
    refine ⟨by simp [res, put_same, tyOk], ?_⟩
    have hns : ns[i]? = some ns[i] := List.getElem?_eq_getElem (show i < ns.length by omega)
    rw [ix_strs hns, z_len_xtp]
    refine take_call hb' (by simp; omega) (by simp; omega) fun r r0 r1 => pick_x r0 r1 fun d hd => ?_
    obtain ⟨st, hst, rfl⟩ := List.mem_map.mp hd
    simp only [mApp, put_same, put_put]
    have le : es.length = i := by have := congrArg List.length el; simp [List.length_take] at this; omega
    refine ⟨by simp; omega, hR _ _ ⟨es ++ [(ns[i], so, st, 1 + s)], _, _, _, rfl, by simp [egD], ?_, fun e he => ?_⟩⟩
    · rw [List.map_append, el, List.take_add_one, hns]; rfl
    · rcases List.mem_append.mp he with he | he
      · exact hf e he
      · rw [List.mem_singleton.mp he]; exact ⟨hst, by show 1 ≤ 1 + s; omega, by show 1 + s ≤ 9; omega⟩
  · obtain ⟨es, x5, x6, x7, rfl, rfl, el, hf⟩ := hI
    refine ⟨trivial, ?_⟩
    simp only [dTuple, res_r put_same, qSeq, qAsg, qTup, qCons, qNil, qOp, qUn, qC, qCall, qVar, qLst, newL_f, qIfS, qTB, qNext, qRet, qDrop, qFor, qCB, qAug, qSl, qPart, qNoPart, gNameD, gSub_eq, dInt_i, dInt0_i, dAdd_i, dCmpI_i, List.set_cons_zero, List.set_cons_succ, List.getElem?_cons_zero, List.getElem?_cons_succ, List.append_nil, z_l0, z_l1, z_l2, z_l3, z_l4, z_l5, z_l6, z_l7, z_l8, z_l9, z_l19, z_l24, z_l25, true_and]
    have le : es.length ≤ 24 := by have := congrArg List.length el; simp [List.length_take] at this; omega
    exact k es _ ((Sub.refl M).put hl) ⟨by rw [el]; exact nd.sublist (List.take_sublist ..), fun e he => nm _ (List.mem_of_mem_take (by rw [← el]; exact List.mem_map_of_mem he)), fun e he => (hf e he).1, fun e he => (hf e he).2, le⟩
abbrev Hnd := Str × Str × Int × List (Str × Int)
def skD (p : Str × Int) : D := .tup [.str p.1, .int p.2]
def hnD (h : Hnd) : D := .tup [.str h.1, .str h.2.1, .int h.2.2.1, .tup (h.2.2.2.map skD)]
structure HndOk (ss : List Str) (h : Hnd) : Prop where
  nm : Tx_ 7 h.1
  st : h.2.1 ∈ ss
  s0 : 0 ≤ h.2.2.1
  s1 : h.2.2.1 ≤ 3
  sk : h.2.2.2.length ≤ 6
structure HandK (ss : List Str) (hs : List Hnd) : Prop where
  nd : (hs.map (·.1)).Nodup
  ok : ∀ h ∈ hs, HndOk ss h
  le : hs.length ≤ 60
/-- the first two letters of the k-th hand's name -/
def hcd (f k : Nat) : List Nat := [97 + (f + 5 * k) % 26, 97 + (3 * f + k) / 26 % 26]
theorem hcd_nd : ∀ f, f < 26 → ((List.range 60).map (hcd f)).Nodup := by decide +kernel
def spCHands : DSp := fun ds M Q _ => ∃ (b : Addr) (zs : List Str) (m : Int), ds = [.ref b, .xtp (zs.map .str), .int m] ∧ M b = some .bag ∧ 0 ≤ m ∧ m ≤ 60 ∧ zs ≠ [] ∧ zs.length ≤ 12 ∧ ∀ hs, HandK zs hs → Q (.tup (hs.map hnD)) M
theorem chands_ok (ds : List D) (M : Mst) (Q : DK) (Ed : DX → Mst → Prop) (h : upSp spCHands ds M Q Ed) : qCHands spTake (fun x _ M => Ed x M) (retE Q) (startD ["_law_bag_here", "_law_stations", "_law_most", "_law_letters", "_law_first", "_law_stem", "_law_found", "_law_k", "_law_name", "_law_skills", "_law_turn", "_law_skill"] ds) M := by
  obtain ⟨Q0, E0, ⟨b, zs, m, rfl, hb, m0, m1, hz, zl, k0⟩, kq, _⟩ := h
  have k : ∀ (hs : List Hnd) M', Sub M M' → HandK zs hs → Q (.tup (hs.map hnD)) M' := fun hs M' S f => kq _ _ _ S (k0 hs f)
  have z0 : 0 < zs.length := List.length_pos_iff.mpr hz
  show qCHands _ _ _ [some (.ref b), some (.xtp (zs.map .str)), some (.int m), none, none, none, none, none, none, none, none, none] M
  simp only [qCHands, qBM, qLc, qiRng1, qSeq, qAsg, qTup, qCons, qNil, qOp, qUn, qC, qCall, qVar, qLst, newL_f, qIfS, qTB, qNext, qRet, qDrop, qFor, qCB, qAug, qSl, qPart, qNoPart, gNameD, gSub_eq, dInt_i, dInt0_i, dAdd_i, dCmpI_i, List.set_cons_zero, List.set_cons_succ, List.getElem?_cons_zero, List.getElem?_cons_succ, List.append_nil, z_l0, z_l1, z_l2, z_l3, z_l4, z_l5, z_l6, z_l7, z_l8, z_l9, z_l19, z_l24, z_l25, true_and, newL_t]
  refine take_call hb (by decide) (by decide) fun f f0 f1 => ⟨rfl, by decide, by decide, fun c hc => ?_⟩
  obtain ⟨f, rfl⟩ : ∃ j : Nat, f = (j : Int) := ⟨f.toNat, by omega⟩
  refine lcR hc (fun _ => trivial) (by simp) (fun _ y => ∃ c : Nat, y = .str (one c) ∧ Low c) (fun d hd M2 R2 S hR2 => ?_) fun ys hys => ?_
  · simp only [wipeD, qSeq, qAsg, qTup, qCons, qNil, qOp, qUn, qC, qCall, qVar, qLst, newL_f, qIfS, qTB, qNext, qRet, qDrop, qFor, qCB, qAug, qSl, qPart, qNoPart, gNameD, gSub_eq, dInt_i, dInt0_i, dAdd_i, dCmpI_i, List.set_cons_zero, List.set_cons_succ, List.getElem?_cons_zero, List.getElem?_cons_succ, List.append_nil, z_l0, z_l1, z_l2, z_l3, z_l4, z_l5, z_l6, z_l7, z_l8, z_l9, z_l19, z_l24, z_l25, true_and]
    refine take_call (S _ _ hb) (by decide) (by decide) fun y y0 y1 => ?_
    refine pick_s y0 (by rw [show (PySem.Str.ofString "abcdefghijklmnopqrstuvwxyz").length = 26 by decide +kernel]; exact y1) fun c hc => hR2 _ ⟨c, rfl, lett_low c hc⟩
  obtain ⟨cs, rfl, lc, hcs⟩ := ones_of hys
  have lc2 : cs.length = 5 := by rw [lc]; simp
  refine join_signs (fun c hc => by have := (hcs c hc).2; omega) (by omega) ?_
  have T : Tx_ 5 (⟨cs.toArray⟩ : Str) := tx_signs (fun c hc => by have := hcs c hc; unfold Low at this; omega) (by omega)
  generalize (⟨cs.toArray⟩ : Str) = stem at T
  intro l hl
  refine take_call (put_keep hb hl) (by omega) (by omega) fun t t0 t1 => ⟨by omega, by omega, ?_⟩
  refine loopL_inv (fun i p M' => ∃ (es : List Hnd) (x7 x8 x9 x10 x11 : Option D), p = [some (.ref b), some (.xtp (zs.map .str)), some (.int m), some (.str (PySem.Str.ofString "abcdefghijklmnopqrstuvwxyz")), some (.int (f : Int)), some (.str stem), some (.ref l), x7, x8, x9, x10, x11] ∧ M' l = some (.lst (es.map hnD)) ∧ Sub M M' ∧ es.map (fun e => e.1.cps.toList.take 2) = (List.range i).map (hcd f) ∧ ∀ e ∈ es, HndOk zs e) (n := t.toNat) (by simp) (fun i d p M' R hd hI hR => ?_) (fun p M' hI => ?_)
    ⟨[], none, none, none, none, none, rfl, put_same, (Sub.refl M).put hl, rfl, fun _ h => by cases h⟩
  · obtain ⟨es, x7, x8, x9, x10, x11, rfl, ml, S, el, hf⟩ := hI
    obtain ⟨hi, rfl⟩ := range_at hd
    have hi : i < 60 := by omega
    have hb' := S _ _ hb
    have le : es.length = i := by have := congrArg List.length el; simpa using this
    refine ⟨trivial, ?_⟩
    simp only [qBM, qSeq, qAsg, qTup, qCons, qNil, qOp, qUn, qC, qCall, qVar, qLst, newL_f, qIfS, qTB, qNext, qRet, qDrop, qFor, qCB, qAug, qSl, qPart, qNoPart, gNameD, gSub_eq, dInt_i, dInt0_i, dAdd_i, dCmpI_i, List.set_cons_zero, List.set_cons_succ, List.getElem?_cons_zero, List.getElem?_cons_succ, List.append_nil, z_l0, z_l1, z_l2, z_l3, z_l4, z_l5, z_l6, z_l7, z_l8, z_l9, z_l19, z_l24, z_l25, true_and]
    have h1 : ((f : Int) + 5 * (i : Int)) % 26 = (((f + 5 * i) % 26 : Nat) : Int) := by omega
    have h2 : (3 * (f : Int) + (i : Int)) / 26 % 26 = (((3 * f + i) / 26 % 26 : Nat) : Int) := by omega
    refine ⟨.inr ⟨by omega, by omega⟩, by decide, ?_⟩
    rw [h1]
    refine ix_lett (Nat.mod_lt _ (by decide)) ⟨.inr ⟨by omega, by omega⟩, ⟨by decide, by decide⟩, by decide, ?_⟩
    rw [h2]
    refine ix_lett (Nat.mod_lt _ (by decide)) ?_
    simp only [z_add_str]
    have m1' := Nat.mod_lt (f + 5 * i) (show 0 < 26 by decide)
    have m2' := Nat.mod_lt ((3 * f + i) / 26) (show 0 < 26 by decide)
    have T2 : Tx_ 2 (one (97 + (f + 5 * i) % 26) ++ one (97 + (3 * f + i) / 26 % 26)) := (tx_one (by omega)).app (tx_one (by omega))
    refine ⟨by show 1 + 1 ≤ 100000; decide, ?_⟩
    have N2 : (one (97 + (f + 5 * i) % 26) ++ one (97 + (3 * f + i) / 26 % 26)).cps.toList = hcd f i := by rw [app_list]; rfl
    generalize one (97 + (f + 5 * i) % 26) ++ one (97 + (3 * f + i) / 26 % 26) = nm at T2 N2
    refine take_call hb' (by decide) (by decide) fun u u0 u1 => ?_
    simp only [dSl, res_str, z_add_str]
    have T3 : Tx_ 7 (nm ++ cutS stem none (some u)) := (T2.app (cutS_tx T)).mono (by decide)
    refine ⟨by have := T2.len; have := (cutS_tx (lo := none) (hi := some u) T).len; omega, ?_⟩
    have N3 : (nm ++ cutS stem none (some u)).cps.toList.take 2 = hcd f i := by rw [app_list, N2]; rfl
    generalize nm ++ cutS stem none (some u) = name at T3 N3
    intro l2 hl2
    have ml' : put M' l2 (.lst []) l = some (.lst (es.map hnD)) := put_keep ml hl2
    simp only [qiRng1, qSeq, qAsg, qTup, qCons, qNil, qOp, qUn, qC, qCall, qVar, qLst, newL_f, qIfS, qTB, qNext, qRet, qDrop, qFor, qCB, qAug, qSl, qPart, qNoPart, gNameD, gSub_eq, dInt_i, dInt0_i, dAdd_i, dCmpI_i, List.set_cons_zero, List.set_cons_succ, List.getElem?_cons_zero, List.getElem?_cons_succ, List.append_nil, z_l0, z_l1, z_l2, z_l3, z_l4, z_l5, z_l6, z_l7, z_l8, z_l9, z_l19, z_l24, z_l25, true_and]
    refine take_call (put_keep hb' hl2) (by decide) (by decide) fun r r0 r1 => pick_t r0 (by simpa using r1) fun d hd => ?_
    obtain ⟨q, rfl, q1, q2⟩ : ∃ q : Int, d = .int q ∧ 0 < q ∧ q ≤ 6 := by
      simp only [List.mem_cons, List.not_mem_nil, or_false] at hd
      rcases hd with rfl | rfl <;> exact ⟨_, rfl, by decide, by decide⟩
    refine take_call (put_keep hb' hl2) q1 (by omega) fun v v0 v1 => ⟨by omega, by omega, ?_⟩
    refine loopL_inv (fun j p M2 => ∃ (ks : List (Str × Int)) (x10 x11 : Option D), p = [some (.ref b), some (.xtp (zs.map .str)), some (.int m), some (.str (PySem.Str.ofString "abcdefghijklmnopqrstuvwxyz")), some (.int (f : Int)), some (.str stem), some (.ref l), some (.int (i : Int)), some (.str name), some (.ref l2), x10, x11] ∧ M2 = put M' l2 (.lst (ks.map skD)) ∧ ks.length = j) (n := v.toNat) (by simp) (fun j d p M2 R2 hd hI hR2 => ?_) (fun p M2 hI => ?_)
      ⟨[], _, _, rfl, rfl, rfl⟩
    · obtain ⟨ks, x10, x11, rfl, rfl, kl⟩ := hI
      obtain ⟨hj, rfl⟩ := range_at hd
      have hj : j < 6 := by omega
      have hb2 : put M' l2 (.lst (ks.map skD)) b = some .bag := put_keep hb' hl2
      refine ⟨trivial, ?_⟩
      simp only [qBM, qSeq, qAsg, qTup, qCons, qNil, qOp, qUn, qC, qCall, qVar, qLst, newL_f, qIfS, qTB, qNext, qRet, qDrop, qFor, qCB, qAug, qSl, qPart, qNoPart, gNameD, gSub_eq, dInt_i, dInt0_i, dAdd_i, dCmpI_i, List.set_cons_zero, List.set_cons_succ, List.getElem?_cons_zero, List.getElem?_cons_succ, List.append_nil, z_l0, z_l1, z_l2, z_l3, z_l4, z_l5, z_l6, z_l7, z_l8, z_l9, z_l19, z_l24, z_l25, true_and]
      refine take_call hb2 (by decide) (by decide) fun r r0 r1 => pick_t r0 (by simpa using r1) fun d hd => ?_
      obtain ⟨so, rfl⟩ : ∃ so, d = .str so := by
        simp only [List.mem_cons, List.not_mem_nil, or_false] at hd
        rcases hd with rfl | rfl | rfl | rfl <;> exact ⟨_, rfl⟩
      refine ⟨by simp [res, put_same, tyOk], take_call hb2 (by decide) (by decide) fun w w0 w1 => ?_⟩
      simp only [mApp, put_same, put_put]
      exact ⟨by simp; omega, hR2 _ _ ⟨ks ++ [(so, w)], _, _, rfl, by simp [skD], by simp [kl]⟩⟩
    · obtain ⟨ks, x10, x11, rfl, rfl, kl⟩ := hI
      have hb2 : put M' l2 (.lst (ks.map skD)) b = some .bag := put_keep hb' hl2
      have ml2 : put M' l2 (.lst (ks.map skD)) l = some (.lst (es.map hnD)) := put_keep ml hl2
      refine ⟨trivial, ?_⟩
      simp only [qBM, qSeq, qAsg, qTup, qCons, qNil, qOp, qUn, qC, qCall, qVar, qLst, newL_f, qIfS, qTB, qNext, qRet, qDrop, qFor, qCB, qAug, qSl, qPart, qNoPart, gNameD, gSub_eq, dInt_i, dInt0_i, dAdd_i, dCmpI_i, List.set_cons_zero, List.set_cons_succ, List.getElem?_cons_zero, List.getElem?_cons_succ, List.append_nil, z_l0, z_l1, z_l2, z_l3, z_l4, z_l5, z_l6, z_l7, z_l8, z_l9, z_l19, z_l24, z_l25, true_and]
      refine ⟨by simp [res, ml2, tyOk], ?_⟩
      rw [z_len_xtp]
      refine take_call hb2 (by simp; omega) (by simp; omega) fun r r0 r1 => pick_x r0 r1 fun d hd => ?_
      obtain ⟨st, hst, rfl⟩ := List.mem_map.mp hd
      refine take_call hb2 (by decide) (by decide) fun w w0 w1 => ?_
      simp only [dTuple, res_r put_same, mApp, ml2]
      refine ⟨by simp; omega, hR _ _ ⟨es ++ [(name, st, w, ks)], _, _, _, _, _, rfl, by rw [put_same]; simp [hnD], ?_, ?_, fun e he => ?_⟩⟩
      · intro a o e
        have e2 := S _ _ e
        rw [put_ne (fun z => by
          subst z
          rw [hl] at e; cases e)]
        exact put_keep e2 hl2
      · rw [List.map_append, el, List.range_succ, List.map_append]; simp [N3]
      · rcases List.mem_append.mp he with he | he
        · exact hf e he
        · rw [List.mem_singleton.mp he]
          exact ⟨T3, hst, w0, by show w ≤ 3; omega, by show ks.length ≤ 6; omega⟩
  · obtain ⟨es, x7, x8, x9, x10, x11, rfl, ml, S, el, hf⟩ := hI
    refine ⟨trivial, ?_⟩
    simp only [dTuple, res_r ml, qSeq, qAsg, qTup, qCons, qNil, qOp, qUn, qC, qCall, qVar, qLst, newL_f, qIfS, qTB, qNext, qRet, qDrop, qFor, qCB, qAug, qSl, qPart, qNoPart, gNameD, gSub_eq, dInt_i, dInt0_i, dAdd_i, dCmpI_i, List.set_cons_zero, List.set_cons_succ, List.getElem?_cons_zero, List.getElem?_cons_succ, List.append_nil, z_l0, z_l1, z_l2, z_l3, z_l4, z_l5, z_l6, z_l7, z_l8, z_l9, z_l19, z_l24, z_l25, true_and]
    have le : es.length = t.toNat := by have := congrArg List.length el; simpa using this
    exact k es _ S ⟨nd_of_map (f := fun z : Str => z.cps.toList.take 2) (by rw [List.map_map]; show (es.map fun e => e.1.cps.toList.take 2).Nodup; rw [el]; exact ((hcd_nd f (by omega)).sublist (List.Sublist.map _ (List.range_sublist.mpr (by omega))))), hf, by omega⟩
end DL
namespace DL
open PySem L2 Tx20 Tx21
def qOnWatch : DTS :=
  (qRet (qOp (dCmpI fun i j => decide (i < j)) (qOp (dInt (fun _ j => 0 < j) fun i j => i % j) (qOp (dAdd false) (qVar 1) (qOp dIx (qVar 0) (qC (.int 2)))) (qC (.int 4))) (qC (.int 2))))
def qCanDrive : DTS :=
  (qRet (qOp (dCmpI fun i j => decide (j ≤ i)) (qBest false (qCons (qLc false (qiAny (qOp dIx (qVar 0) (qC (.int 3)))) (gTupD 2 (gConsD (gNameD 2) (gConsD (gNameD 3) gNilD))) (qTB (qOp (dEq false) (qVar 2) (qC (.str (PySem.Str.ofString "drive"))))) (qVar 3) [2, 3]) qNil) (qCons (qUn dNeg (qC (.int 1))) qNil)) (qVar 1)))
def qLWatch : DTS :=
  (qRet (qOp (dIn false) (qOp (dInt (fun _ j => 0 < j) fun i j => i % j) (qOp (dAdd false) (qVar 1) (qOp dIx (qVar 0) (qC (.int 2)))) (qC (.int 4))) (qTup (qCons (qC (.int 0)) (qCons (qC (.int 1)) qNil)))))
def onW (h : Hnd) (d : Int) : Bool := decide ((d + h.2.2.1) % 4 < 2)
theorem hd1 {h : Hnd} {M : Mst} {Q : DK} : dIx (hnD h) (.int 1) M Q = Q (.str h.2.1) M := ix_t rfl
theorem hd0 {h : Hnd} {M : Mst} {Q : DK} : dIx (hnD h) (.int 0) M Q = Q (.str h.1) M := ix_t rfl
theorem hd2 {h : Hnd} {M : Mst} {Q : DK} : dIx (hnD h) (.int 2) M Q = Q (.int h.2.2.1) M := ix_t rfl
theorem hd3 {h : Hnd} {M : Mst} {Q : DK} : dIx (hnD h) (.int 3) M Q = Q (.tup (h.2.2.2.map skD)) M := ix_t rfl
def spOnW : DSp := fun ds M Q _ => ∃ (h : Hnd) (d : Int), ds = [hnD h, .int d] ∧ 0 ≤ d ∧ d ≤ 1000 ∧ 0 ≤ h.2.2.1 ∧ h.2.2.1 ≤ 3 ∧ Q (.bl (onW h d)) M
theorem onwatch_ok (ds : List D) (M : Mst) (Q : DK) (Ed : DX → Mst → Prop) (h : upSp spOnW ds M Q Ed) : qOnWatch (fun x _ M => Ed x M) (retE Q) (startD ["hand", "day"] ds) M := by
  obtain ⟨Q0, E0, ⟨h, d, rfl, d0, d1, s0, s1, k0⟩, kq, _⟩ := h
  have k : Q (.bl (onW h d)) M := kq _ _ _ (Sub.refl _) k0
  show qOnWatch _ _ [some (hnD h), some (.int d)] M
  simp only [qOnWatch, qSeq, qAsg, qTup, qCons, qNil, qOp, qUn, qC, qCall, qVar, qLst, newL_f, qIfS, qTB, qNext, qRet, qDrop, qFor, qCB, qAug, qSl, qPart, qNoPart, gNameD, gSub_eq, dInt_i, dInt0_i, dAdd_i, dCmpI_i, List.set_cons_zero, List.set_cons_succ, List.getElem?_cons_zero, List.getElem?_cons_succ, List.append_nil, z_l0, z_l1, z_l2, z_l3, z_l4, z_l5, z_l6, z_l7, z_l8, z_l9, z_l19, z_l24, z_l25, true_and, hd2]
  exact ⟨by decide, k⟩
theorem in_01 {i : Int} {M : Mst} {Q : DK} : dIn false (.int i) (.tup [.int 0, .int 1]) M Q = Q (.bl (decide (i = 0) || decide (i = 1))) M := by
  have h : dIn false (.int i) (.tup [.int 0, .int 1]) M Q = dIn false (.int i) (.lst ([0, 1].map D.int)) M Q := rfl
  rw [h, in_ints, Bool.false_xor]
  congr 2
  simp [List.mem_cons, Bool.decide_or]
theorem lwatch_ok (ds : List D) (M : Mst) (Q : DK) (Ed : DX → Mst → Prop) (h : upSp spOnW ds M Q Ed) : qLWatch (fun x _ M => Ed x M) (retE Q) (startD ["_law_hand", "_law_date"] ds) M := by
  obtain ⟨Q0, E0, ⟨h, d, rfl, d0, d1, s0, s1, k0⟩, kq, _⟩ := h
  have k : Q (.bl (onW h d)) M := kq _ _ _ (Sub.refl _) k0
  show qLWatch _ _ [some (hnD h), some (.int d)] M
  simp only [qLWatch, qSeq, qAsg, qTup, qCons, qNil, qOp, qUn, qC, qCall, qVar, qLst, newL_f, qIfS, qTB, qNext, qRet, qDrop, qFor, qCB, qAug, qSl, qPart, qNoPart, gNameD, gSub_eq, dInt_i, dInt0_i, dAdd_i, dCmpI_i, List.set_cons_zero, List.set_cons_succ, List.getElem?_cons_zero, List.getElem?_cons_succ, List.append_nil, z_l0, z_l1, z_l2, z_l3, z_l4, z_l5, z_l6, z_l7, z_l8, z_l9, z_l19, z_l24, z_l25, true_and, hd2]
  have e : onW h d = (decide ((d + h.2.2.1) % 4 = 0) || decide ((d + h.2.2.1) % 4 = 1)) := by
    unfold onW
    rw [← Bool.decide_or]
    exact decide_eq_decide.mpr (by omega)
  rw [e] at k
  refine ⟨by decide, ?_⟩
  rw [in_01]; exact k
def skN (ks : List (Str × Int)) : List Int := ks.filterMap fun p => if p.1 = lit "drive" then some p.2 else none
def skF : D → Option D
  | .tup [.str z, .int n] => if z = lit "drive" then some (.int n) else none
  | _ => none
theorem skF_map : ∀ ks : List (Str × Int), (ks.map skD).filterMap skF = (skN ks).map .int
  | [] => rfl
  | p :: ks => by
    have ih := skF_map ks
    unfold skN at ih ⊢
    rw [List.map_cons, List.filterMap_cons, List.filterMap_cons]
    by_cases h : p.1 = lit "drive"
    · have e : skF (skD p) = some (.int p.2) := by show (if p.1 = lit "drive" then _ else _) = _; rw [if_pos h]
      simp only [e, if_pos h, List.map_cons, ih]
    · have e : skF (skD p) = none := by show (if p.1 = lit "drive" then _ else _) = _; rw [if_neg h]
      simp only [e, if_neg h, ih]
def canB (h : Hnd) (d : Int) : Bool := (skN h.2.2.2).any fun n => decide (d ≤ n)
def spCanDr : DSp := fun ds M Q _ => ∃ (h : Hnd) (d : Int), ds = [hnD h, .int d] ∧ 0 ≤ d ∧ h.2.2.2.length ≤ 1000 ∧ Q (.bl (canB h d)) M
theorem candrive_ok (ds : List D) (M : Mst) (Q : DK) (Ed : DX → Mst → Prop) (h : upSp spCanDr ds M Q Ed) : qCanDrive (fun x _ M => Ed x M) (retE Q) (startD ["hand", "day", "skill", "last"] ds) M := by
  obtain ⟨Q0, E0, ⟨h, d, rfl, d0, hl, k0⟩, kq, _⟩ := h
  have k : Q (.bl (canB h d)) M := kq _ _ _ (Sub.refl _) k0
  show qCanDrive _ _ [some (hnD h), some (.int d), none, none] M
  simp only [qCanDrive, qBest, qLc, qiAny, qSeq, qAsg, qTup, qCons, qNil, qOp, qUn, qC, qCall, qVar, qLst, newL_f, qIfS, qTB, qNext, qRet, qDrop, qFor, qCB, qAug, qSl, qPart, qNoPart, gNameD, gSub_eq, dInt_i, dInt0_i, dAdd_i, dCmpI_i, List.set_cons_zero, List.set_cons_succ, List.getElem?_cons_zero, List.getElem?_cons_succ, List.append_nil, z_l0, z_l1, z_l2, z_l3, z_l4, z_l5, z_l6, z_l7, z_l8, z_l9, z_l19, z_l24, z_l25, true_and, hd3]
  intro a ha
  refine compL_map ha skF (fun _ => trivial) (by rw [List.length_map]; omega) (fun d hd acc R hR => ?_) ?_
  · obtain ⟨q, _, rfl⟩ := List.mem_map.mp hd
    have e : skF (skD q) = if q.1 = lit "drive" then some (.int q.2) else none := rfl
    rw [e] at hR
    simp only [skD, gTupD, gConsD, gNilD, wipeD, List.foldl, z_eq_str, qSeq, qAsg, qTup, qCons, qNil, qOp, qUn, qC, qCall, qVar, qLst, newL_f, qIfS, qTB, qNext, qRet, qDrop, qFor, qCB, qAug, qSl, qPart, qNoPart, gNameD, gSub_eq, dInt_i, dInt0_i, dAdd_i, dCmpI_i, List.set_cons_zero, List.set_cons_succ, List.getElem?_cons_zero, List.getElem?_cons_succ, List.append_nil, z_l0, z_l1, z_l2, z_l3, z_l4, z_l5, z_l6, z_l7, z_l8, z_l9, z_l19, z_l24, z_l25, true_and]
    refine ⟨rfl, rfl, ?_⟩
    simp only [z_eq_str, qSeq, qAsg, qTup, qCons, qNil, qOp, qUn, qC, qCall, qVar, qLst, newL_f, qIfS, qTB, qNext, qRet, qDrop, qFor, qCB, qAug, qSl, qPart, qNoPart, gNameD, gSub_eq, dInt_i, dInt0_i, dAdd_i, dCmpI_i, List.set_cons_zero, List.set_cons_succ, List.getElem?_cons_zero, List.getElem?_cons_succ, List.append_nil, z_l0, z_l1, z_l2, z_l3, z_l4, z_l5, z_l6, z_l7, z_l8, z_l9, z_l19, z_l24, z_l25, true_and]
    by_cases h : q.1 = lit "drive"
    · rw [if_pos h] at hR; simp only [h, decide_true, if_true]; exact hR
    · rw [if_neg h] at hR; simp only [h, decide_false, Bool.false_eq_true, if_false]; exact hR
  · simp only [Bool.false_eq_true, if_false, skF_map, z_neg, res_lst]
    rw [show intsD ((skN h.2.2.2).map D.int) = some (skN h.2.2.2) from by have := intsD_map (fun i : Int => i) (skN h.2.2.2); simpa using this]
    refine ⟨fun e => ?_, fun m hm hb => ?_⟩
    · have e2 : canB h d = false := by unfold canB; rw [e]; rfl
      rw [e2] at k
      simp only [dCmpI_i, show decide (d ≤ -1) = false from decide_eq_false (by omega)]
      exact k
    · have e2 : canB h d = decide (d ≤ m) := by
        unfold canB
        by_cases c : d ≤ m
        · rw [decide_eq_true c, List.any_eq_true]; exact ⟨m, hm, decide_eq_true c⟩
        · rw [decide_eq_false c, List.any_eq_false]
          intro y hy
          have := hb y hy
          unfold bound at this
          have h1 : y ≤ m := by simpa using this
          simp; omega
      rw [e2] at k
      exact k
end DL
namespace DL
open PySem L2 Tx20 Tx21 Pair
def qDriversFor (sp_can_drive : DSp) (sp_is_on_watch : DSp) : DTS :=
  (qSeq (qAsg (qLst true qNil) (gNameD 3))
  (qSeq (qFor (qiEnum0 (qCons (qVar 1) qNil)) (gTupD 2 (gConsD (gNameD 4) (gConsD (gNameD 5) gNilD)))
  (qIfS (qAnd (qTB (qOp (dEq false) (qOp dIx (qVar 5) (qC (.int 1))) (qOp dIx (qVar 0) (qC (.int 2))))) (qAnd (qTB (qCall sp_is_on_watch [] (qCons (qVar 5) (qCons (qVar 2) qNil)))) (qTB (qCall sp_can_drive [] (qCons (qVar 5) (qCons (qVar 2) qNil))))))
  (qDrop (qBM "list" mApp (qVar 3) (qCons (qVar 4) qNil)))
  qNext))
  (qFrz 3 (qRet (qVar 3)))))
def qLDrives (sp__law_watch : DSp) : DTS :=
  (qSeq (qIfS (qOr (qTB (qOp (dEq true) (qOp dIx (qVar 1) (qC (.int 1))) (qOp dIx (qVar 0) (qC (.int 2))))) (qNot (qTB (qCall sp__law_watch [] (qCons (qVar 1) (qCons (qVar 2) qNil))))))
  (qRet (qC (.bl false)))
  qNext)
  (qRet (qCB dAny (qCons (qLc false (qiAny (qOp dIx (qVar 1) (qC (.int 3)))) (gTupD 2 (gConsD (gNameD 3) (gConsD (gNameD 4) gNilD))) qYes (qAndV (qOp (dEq false) (qVar 3) (qC (.str (PySem.Str.ofString "drive")))) (qOp (dCmpI fun i j => decide (j ≤ i)) (qVar 4) (qVar 2))) [3, 4]) qNil))))
def fitsB (e : Eng) (h : Hnd) (d : Int) : Bool := decide (h.2.1 = e.2.2.1) && (onW h d && canB h d)
def fitAt (e : Eng) (hs : List Hnd) (d : Int) (i : Nat) : Bool := match hs[i]? with
  | some h => fitsB e h d
  | none => false
/-- the places of those who can drive e, up to the n-th -/
def drvTo (e : Eng) (hs : List Hnd) (d : Int) (n : Nat) : List Nat := (List.range n).filter (fitAt e hs d)
theorem eg2 {e : Eng} {M : Mst} {Q : DK} : dIx (egD e) (.int 2) M Q = Q (.str e.2.2.1) M := ix_t rfl
theorem eg0 {e : Eng} {M : Mst} {Q : DK} : dIx (egD e) (.int 0) M Q = Q (.str e.1) M := ix_t rfl
theorem eg3 {e : Eng} {M : Mst} {Q : DK} : dIx (egD e) (.int 3) M Q = Q (.int e.2.2.2) M := ix_t rfl
structure HandsQ (hs : List Hnd) : Prop where
  le : hs.length ≤ 60
  ok : ∀ h ∈ hs, 0 ≤ h.2.2.1 ∧ h.2.2.1 ≤ 3 ∧ h.2.2.2.length ≤ 6
theorem HandK.q {ss : List Str} {hs : List Hnd} (h : HandK ss hs) : HandsQ hs := ⟨h.le, fun x hx => ⟨(h.ok x hx).s0, (h.ok x hx).s1, (h.ok x hx).sk⟩⟩
def spDrv : DSp := fun ds M Q _ => ∃ (e : Eng) (hs : List Hnd) (d : Int), ds = [egD e, .tup (hs.map hnD), .int d] ∧ 0 ≤ d ∧ d ≤ 1000 ∧ HandsQ hs ∧ Q (.lst (natsD (drvTo e hs d hs.length))) M
theorem drivers_ok (ds : List D) (M : Mst) (Q : DK) (Ed : DX → Mst → Prop) (h : upSp spDrv ds M Q Ed) : qDriversFor spCanDr spOnW (fun x _ M => Ed x M) (retE Q) (startD ["engine", "hands", "day", "found", "place", "hand"] ds) M := by
  obtain ⟨Q0, E0, ⟨e, hs, d, rfl, d0, d1, hq, k0⟩, kq, _⟩ := h
  have k : ∀ M', Sub M M' → Q (.lst (natsD (drvTo e hs d hs.length))) M' := fun M' S => kq _ _ _ S k0
  show qDriversFor _ _ _ _ [some (egD e), some (.tup (hs.map hnD)), some (.int d), none, none, none] M
  simp only [qDriversFor, newL_t, qSeq, qAsg, qTup, qCons, qNil, qOp, qUn, qC, qCall, qVar, qLst, newL_f, qIfS, qTB, qNext, qRet, qDrop, qFor, qCB, qAug, qSl, qPart, qNoPart, gNameD, gSub_eq, dInt_i, dInt0_i, dAdd_i, dCmpI_i, List.set_cons_zero, List.set_cons_succ, List.getElem?_cons_zero, List.getElem?_cons_succ, List.append_nil, z_l0, z_l1, z_l2, z_l3, z_l4, z_l5, z_l6, z_l7, z_l8, z_l9, z_l19, z_l24, z_l25, true_and]
  intro a ha
  simp only [qiEnum0, seqAt, qSeq, qAsg, qTup, qCons, qNil, qOp, qUn, qC, qCall, qVar, qLst, newL_f, qIfS, qTB, qNext, qRet, qDrop, qFor, qCB, qAug, qSl, qPart, qNoPart, gNameD, gSub_eq, dInt_i, dInt0_i, dAdd_i, dCmpI_i, List.set_cons_zero, List.set_cons_succ, List.getElem?_cons_zero, List.getElem?_cons_succ, List.append_nil, z_l0, z_l1, z_l2, z_l3, z_l4, z_l5, z_l6, z_l7, z_l8, z_l9, z_l19, z_l24, z_l25, true_and]
  refine loopL_inv (fun i p M' => ∃ (p4 p5 : Option D), p = [some (egD e), some (.tup (hs.map hnD)), some (.int d), some (.ref a), p4, p5] ∧ M' = put M a (.lst (natsD (drvTo e hs d i)))) (n := hs.length) (by simp) (fun i x p M' R hd' hI hR => ?_) (fun p M' hI => ?_)
    ⟨none, none, rfl, rfl⟩
  · obtain ⟨p4, p5, rfl, rfl⟩ := hI
    obtain ⟨y, hy, rfl⟩ := enum_tup hd'
    rw [List.getElem?_map] at hy
    obtain ⟨h, hh, rfl⟩ := Option.map_eq_some_iff.mp hy
    have hi : i < hs.length := (List.getElem?_eq_some_iff.mp hh).1
    have := hq.le
    obtain ⟨s0, s1, sk⟩ := hq.ok h (List.mem_of_getElem? hh)
    have fa : fitAt e hs d i = fitsB e h d := by unfold fitAt; rw [hh]
    have step : drvTo e hs d (i + 1) = if fitsB e h d = true then drvTo e hs d i ++ [i] else drvTo e hs d i := by
      unfold drvTo
      rw [List.range_succ, List.filter_append, List.filter_cons, fa]
      cases fitsB e h d <;> simp
    have ll : (natsD (drvTo e hs d i)).length ≤ i := by
      unfold natsD drvTo
      rw [List.length_map]
      exact Nat.le_trans (List.length_filter_le ..) (by simp)
    refine ⟨trivial, ?_⟩
    simp only [gTupD, gConsD, gNilD, qSeq, qAsg, qTup, qCons, qNil, qOp, qUn, qC, qCall, qVar, qLst, newL_f, qIfS, qTB, qNext, qRet, qDrop, qFor, qCB, qAug, qSl, qPart, qNoPart, gNameD, gSub_eq, dInt_i, dInt0_i, dAdd_i, dCmpI_i, List.set_cons_zero, List.set_cons_succ, List.getElem?_cons_zero, List.getElem?_cons_succ, List.append_nil, z_l0, z_l1, z_l2, z_l3, z_l4, z_l5, z_l6, z_l7, z_l8, z_l9, z_l19, z_l24, z_l25, true_and]
    refine ⟨rfl, rfl, ?_⟩
    simp only [qAnd, hd1, eg2, z_eq_str, qSeq, qAsg, qTup, qCons, qNil, qOp, qUn, qC, qCall, qVar, qLst, newL_f, qIfS, qTB, qNext, qRet, qDrop, qFor, qCB, qAug, qSl, qPart, qNoPart, gNameD, gSub_eq, dInt_i, dInt0_i, dAdd_i, dCmpI_i, List.set_cons_zero, List.set_cons_succ, List.getElem?_cons_zero, List.getElem?_cons_succ, List.append_nil, z_l0, z_l1, z_l2, z_l3, z_l4, z_l5, z_l6, z_l7, z_l8, z_l9, z_l19, z_l24, z_l25, true_and]
    by_cases c1 : h.2.1 = e.2.2.1
    · simp only [c1, decide_true, if_true]
      refine ⟨h, d, rfl, d0, d1, s0, s1, ?_⟩
      cases c2 : onW h d with
      | false =>
        have e1 : fitsB e h d = false := by unfold fitsB; rw [c2]; simp
        rw [e1] at step
        simp only [Bool.false_eq_true, if_false] at step ⊢
        exact hR _ _ ⟨_, _, rfl, by rw [step]⟩
      | true =>
        simp only [if_true, qSeq, qAsg, qTup, qCons, qNil, qOp, qUn, qC, qCall, qVar, qLst, newL_f, qIfS, qTB, qNext, qRet, qDrop, qFor, qCB, qAug, qSl, qPart, qNoPart, gNameD, gSub_eq, dInt_i, dInt0_i, dAdd_i, dCmpI_i, List.set_cons_zero, List.set_cons_succ, List.getElem?_cons_zero, List.getElem?_cons_succ, List.append_nil, z_l0, z_l1, z_l2, z_l3, z_l4, z_l5, z_l6, z_l7, z_l8, z_l9, z_l19, z_l24, z_l25, true_and]
        refine ⟨h, d, rfl, d0, by omega, ?_⟩
        cases c3 : canB h d with
        | false =>
          have e1 : fitsB e h d = false := by unfold fitsB; rw [c3]; simp
          rw [e1] at step
          simp only [Bool.false_eq_true, if_false] at step ⊢
          exact hR _ _ ⟨_, _, rfl, by rw [step]⟩
        | true =>
          have e1 : fitsB e h d = true := by unfold fitsB; rw [c2, c3, decide_eq_true c1]; rfl
          rw [e1] at step
          simp only [if_true] at step ⊢
          simp only [qBM, mApp, res_r put_same, tyOk, put_same, put_put, qSeq, qAsg, qTup, qCons, qNil, qOp, qUn, qC, qCall, qVar, qLst, newL_f, qIfS, qTB, qNext, qRet, qDrop, qFor, qCB, qAug, qSl, qPart, qNoPart, gNameD, gSub_eq, dInt_i, dInt0_i, dAdd_i, dCmpI_i, List.set_cons_zero, List.set_cons_succ, List.getElem?_cons_zero, List.getElem?_cons_succ, List.append_nil, z_l0, z_l1, z_l2, z_l3, z_l4, z_l5, z_l6, z_l7, z_l8, z_l9, z_l19, z_l24, z_l25, true_and]
          refine ⟨by decide, by omega, hR _ _ ⟨_, _, rfl, by rw [step]; simp [natsD]⟩⟩
    · have e1 : fitsB e h d = false := by unfold fitsB; rw [decide_eq_false c1]; rfl
      rw [e1] at step
      simp only [c1, decide_false, Bool.false_eq_true, if_false] at step ⊢
      exact hR _ _ ⟨_, _, rfl, by rw [step]⟩
  · obtain ⟨p4, p5, rfl, rfl⟩ := hI
    refine ⟨trivial, ?_⟩
    simp only [qFrz, frz, put_same, del_put ha, qSeq, qAsg, qTup, qCons, qNil, qOp, qUn, qC, qCall, qVar, qLst, newL_f, qIfS, qTB, qNext, qRet, qDrop, qFor, qCB, qAug, qSl, qPart, qNoPart, gNameD, gSub_eq, dInt_i, dInt0_i, dAdd_i, dCmpI_i, List.set_cons_zero, List.set_cons_succ, List.getElem?_cons_zero, List.getElem?_cons_succ, List.append_nil, z_l0, z_l1, z_l2, z_l3, z_l4, z_l5, z_l6, z_l7, z_l8, z_l9, z_l19, z_l24, z_l25, true_and]
    exact k M (Sub.refl M)
def skB (dt : Int) : D → Bool
  | .tup [.str z, .int n] => decide (z = lit "drive") && decide (dt ≤ n)
  | _ => false
theorem can_any (h : Hnd) (d : Int) : canB h d = ((h.2.2.2.map skD).map (skB d)).any id := by
  unfold canB skN
  rw [List.any_filterMap, List.map_map, List.any_map]
  congr 1
  funext p
  show _ = (decide (p.1 = lit "drive") && decide (d ≤ p.2))
  by_cases c : p.1 = lit "drive"
  · simp [c]
  · simp [c]
theorem any_bls' {bs : List Bool} {M : Mst} {Q : DK} : dAny [.lst (bs.map D.bl)] M Q = Q (.bl (bs.any id)) M := by
  have h : blsD (bs.map D.bl) = some bs := by
    have := blsD_map (id : Bool → Bool) bs
    simpa using this
  unfold dAny
  simp only [res_lst, h]
def spLDr : DSp := fun ds M Q _ => ∃ (e : Eng) (h : Hnd) (d : Int), ds = [egD e, hnD h, .int d] ∧ 0 ≤ d ∧ d ≤ 1000 ∧ 0 ≤ h.2.2.1 ∧ h.2.2.1 ≤ 3 ∧ h.2.2.2.length ≤ 1000 ∧ Q (.bl (fitsB e h d)) M
theorem ldrives_ok (ds : List D) (M : Mst) (Q : DK) (Ed : DX → Mst → Prop) (h : upSp spLDr ds M Q Ed) : qLDrives spOnW (fun x _ M => Ed x M) (retE Q) (startD ["_law_engine", "_law_hand", "_law_date", "_law_skill", "_law_last"] ds) M := by
  obtain ⟨Q0, E0, ⟨e, h, d, rfl, d0, d1, s0, s1, sk, k0⟩, kq, _⟩ := h
  have k : Q (.bl (fitsB e h d)) M := kq _ _ _ (Sub.refl _) k0
  show qLDrives _ _ _ [some (egD e), some (hnD h), some (.int d), none, none] M
  simp only [qLDrives, qOr, qNot, hd1, eg2, z_ne_str, qSeq, qAsg, qTup, qCons, qNil, qOp, qUn, qC, qCall, qVar, qLst, newL_f, qIfS, qTB, qNext, qRet, qDrop, qFor, qCB, qAug, qSl, qPart, qNoPart, gNameD, gSub_eq, dInt_i, dInt0_i, dAdd_i, dCmpI_i, List.set_cons_zero, List.set_cons_succ, List.getElem?_cons_zero, List.getElem?_cons_succ, List.append_nil, z_l0, z_l1, z_l2, z_l3, z_l4, z_l5, z_l6, z_l7, z_l8, z_l9, z_l19, z_l24, z_l25, true_and]
  by_cases c1 : h.2.1 = e.2.2.1
  · simp only [c1, decide_true, Bool.not_true, Bool.false_eq_true, if_false]
    refine ⟨h, d, rfl, d0, d1, s0, s1, ?_⟩
    cases c2 : onW h d with
    | false =>
      have e1 : fitsB e h d = false := by unfold fitsB; rw [c2]; simp
      rw [e1] at k
      simp only [Bool.not_false, if_true, qSeq, qAsg, qTup, qCons, qNil, qOp, qUn, qC, qCall, qVar, qLst, newL_f, qIfS, qTB, qNext, qRet, qDrop, qFor, qCB, qAug, qSl, qPart, qNoPart, gNameD, gSub_eq, dInt_i, dInt0_i, dAdd_i, dCmpI_i, List.set_cons_zero, List.set_cons_succ, List.getElem?_cons_zero, List.getElem?_cons_succ, List.append_nil, z_l0, z_l1, z_l2, z_l3, z_l4, z_l5, z_l6, z_l7, z_l8, z_l9, z_l19, z_l24, z_l25, true_and]
      exact k
    | true =>
      have e1 : fitsB e h d = canB h d := by unfold fitsB; rw [c2, decide_eq_true c1]; simp
      rw [e1] at k
      simp only [Bool.not_true, Bool.false_eq_true, if_false, qLc, qiAny, hd3, qSeq, qAsg, qTup, qCons, qNil, qOp, qUn, qC, qCall, qVar, qLst, newL_f, qIfS, qTB, qNext, qRet, qDrop, qFor, qCB, qAug, qSl, qPart, qNoPart, gNameD, gSub_eq, dInt_i, dInt0_i, dAdd_i, dCmpI_i, List.set_cons_zero, List.set_cons_succ, List.getElem?_cons_zero, List.getElem?_cons_succ, List.append_nil, z_l0, z_l1, z_l2, z_l3, z_l4, z_l5, z_l6, z_l7, z_l8, z_l9, z_l19, z_l24, z_l25, true_and]
      intro a ha
      refine compL_map ha (fun x => some (.bl (skB d x))) (fun _ => trivial) (by rw [List.length_map]; omega) (fun x hx acc R hR => ?_) ?_
      · obtain ⟨q, _, rfl⟩ := List.mem_map.mp hx
        have eb : skB d (skD q) = (decide (q.1 = lit "drive") && decide (d ≤ q.2)) := rfl
        rw [eb] at hR
        simp only [skD, gTupD, gConsD, gNilD, wipeD, List.foldl, qYes, if_true, qSeq, qAsg, qTup, qCons, qNil, qOp, qUn, qC, qCall, qVar, qLst, newL_f, qIfS, qTB, qNext, qRet, qDrop, qFor, qCB, qAug, qSl, qPart, qNoPart, gNameD, gSub_eq, dInt_i, dInt0_i, dAdd_i, dCmpI_i, List.set_cons_zero, List.set_cons_succ, List.getElem?_cons_zero, List.getElem?_cons_succ, List.append_nil, z_l0, z_l1, z_l2, z_l3, z_l4, z_l5, z_l6, z_l7, z_l8, z_l9, z_l19, z_l24, z_l25, true_and]
        refine ⟨rfl, rfl, ?_⟩
        simp only [qAndV, z_eq_str, qSeq, qAsg, qTup, qCons, qNil, qOp, qUn, qC, qCall, qVar, qLst, newL_f, qIfS, qTB, qNext, qRet, qDrop, qFor, qCB, qAug, qSl, qPart, qNoPart, gNameD, gSub_eq, dInt_i, dInt0_i, dAdd_i, dCmpI_i, List.set_cons_zero, List.set_cons_succ, List.getElem?_cons_zero, List.getElem?_cons_succ, List.append_nil, z_l0, z_l1, z_l2, z_l3, z_l4, z_l5, z_l6, z_l7, z_l8, z_l9, z_l19, z_l24, z_l25, true_and]
        by_cases c : q.1 = lit "drive"
        · simp only [c, decide_true, Bool.true_and] at hR
          simp only [c, decide_true, if_true, qSeq, qAsg, qTup, qCons, qNil, qOp, qUn, qC, qCall, qVar, qLst, newL_f, qIfS, qTB, qNext, qRet, qDrop, qFor, qCB, qAug, qSl, qPart, qNoPart, gNameD, gSub_eq, dInt_i, dInt0_i, dAdd_i, dCmpI_i, List.set_cons_zero, List.set_cons_succ, List.getElem?_cons_zero, List.getElem?_cons_succ, List.append_nil, z_l0, z_l1, z_l2, z_l3, z_l4, z_l5, z_l6, z_l7, z_l8, z_l9, z_l19, z_l24, z_l25, true_and]
          exact hR
        · simp only [c, decide_false, Bool.false_and] at hR
          simp only [c, decide_false, Bool.false_eq_true, if_false]
          exact hR
      · have ef : (h.2.2.2.map skD).filterMap (fun x => some (D.bl (skB d x))) = ((h.2.2.2.map skD).map (skB d)).map D.bl := by rw [List.filterMap_eq_map', List.map_map, List.map_map, List.map_map]; rfl
        simp only [Bool.false_eq_true, if_false, ef, any_bls']
        rw [← can_any]
        exact k
  · have e1 : fitsB e h d = false := by unfold fitsB; rw [decide_eq_false c1]; rfl
    rw [e1] at k
    simp only [c1, decide_false, Bool.not_false, if_true, qSeq, qAsg, qTup, qCons, qNil, qOp, qUn, qC, qCall, qVar, qLst, newL_f, qIfS, qTB, qNext, qRet, qDrop, qFor, qCB, qAug, qSl, qPart, qNoPart, gNameD, gSub_eq, dInt_i, dInt0_i, dAdd_i, dCmpI_i, List.set_cons_zero, List.set_cons_succ, List.getElem?_cons_zero, List.getElem?_cons_succ, List.append_nil, z_l0, z_l1, z_l2, z_l3, z_l4, z_l5, z_l6, z_l7, z_l8, z_l9, z_l19, z_l24, z_l25, true_and]
    exact k
end DL
namespace DL
open PySem L2 Tx20 Tx21 Pair
open Classical in
/-- texts in order -/
noncomputable def srtP (v : List Str) : List Str := if h : ∃ xs : List Str, xs.Perm v ∧ xs.Pairwise leS then h.choose else v
theorem srtP_eq {v xs : List Str} (p : xs.Perm v) (h : xs.Pairwise leS) : srtP v = xs := by
  unfold srtP
  have hx : ∃ xs : List Str, xs.Perm v ∧ xs.Pairwise leS := ⟨xs, p, h⟩
  rw [dif_pos hx]
  exact pw_uniq hx.choose_spec.2 h (hx.choose_spec.1.trans p.symm)
def freeN (hs : List Hnd) (e : Eng) (d : Int) : List Str := (hs.filter fun h => decide (h.2.1 = e.2.2.1) && onW h d).map (·.1)
/-- the others on the engine, of those who aren't taken -/
noncomputable def pick (hs : List Hnd) (d : Int) (e : Eng) (tk : List Str) (o : Option Str) : List Str := match o with
  | none => []
  | some _ => (srtP ((freeN hs e d).filter fun z => decide (z ∉ tk))).take (e.2.2.2 - 1).toNat
noncomputable def othL (hs : List Hnd) (d : Int) : List (Eng × Option Str) → List Str → List (List Str)
  | [], _ => []
  | (e, o) :: r, tk => pick hs d e tk o :: othL hs d r (tk ++ pick hs d e tk o)
theorem pick_sorted {hs : List Hnd} {d : Int} {e : Eng} {tk ys : List Str} {x : Str} (p : ys.Perm ((freeN hs e d).filter fun z => decide (z ∉ tk))) (h : ys.Pairwise leS) : pick hs d e tk (some x) = ys.take (e.2.2.2 - 1).toNat := by
  unfold pick
  rw [srtP_eq p h]
def wsK (es : List Eng) (hs : List Hnd) (d : Int) : List (List Key) := es.map fun e => (drvTo e hs d hs.length).map fun i : Nat => (Sum.inl (i : Int) : Key)
theorem drvTo_le (e : Eng) (hs : List Hnd) (d : Int) : (drvTo e hs d hs.length).length ≤ hs.length := by
  unfold drvTo
  exact Nat.le_trans (List.length_filter_le ..) (by simp)
theorem wsK_pre {es : List Eng} {hs : List Hnd} {d : Int} (h1 : es.length ≤ 24) (h2 : hs.length ≤ 60) : PairPre (wsK es hs d) := by
  refine ⟨by unfold wsK; rw [List.length_map]; omega, fun w hw => ?_⟩
  obtain ⟨e, _, rfl⟩ := List.mem_map.mp hw
  rw [List.length_map]
  exact Nat.le_trans (drvTo_le e hs d) (by omega)
def toN : Option Key → Option Nat
  | some (.inl i) => some i.toNat
  | _ => none
def optN : Option Nat → D
  | none => .non
  | some i => .int (i : Int)
structure HoldOk (es : List Eng) (hs : List Hnd) (d : Int) (H : List (Option Nat)) : Prop where
  len : H.length = es.length
  fit : ∀ (v i : Nat), H[v]? = some (some i) → ∃ e h, es[v]? = some e ∧ hs[i]? = some h ∧ fitsB e h d = true
  nd : (H.filterMap id).Nodup
  mx : (H.filterMap id).length = (heldOf (wsK es hs d)).length
theorem len_toN : ∀ {L : List Key}, (∀ k ∈ L, ∃ i : Nat, k = .inl (i : Int)) → (L.filterMap fun k => toN (some k)).length = L.length
  | [], _ => rfl
  | k :: L, h => by
    obtain ⟨i, rfl⟩ := h k (List.mem_cons_self ..)
    rw [List.filterMap_cons]
    show (((i : Int).toNat) :: _).length = _
    rw [List.length_cons, List.length_cons, len_toN fun k hk => h k (List.mem_cons_of_mem _ hk)]
theorem wsK_mem {es : List Eng} {hs : List Hnd} {d : Int} {v : Nat} {k : Key} (h : k ∈ ws_ (wsK es hs d) v) : ∃ (i : Nat) (e : Eng) (x : Hnd), k = .inl (i : Int) ∧ es[v]? = some e ∧ hs[i]? = some x ∧ fitsB e x d = true := by
  unfold ws_ wsK at h
  rw [List.getElem?_map] at h
  cases he : es[v]? with
  | none => rw [he] at h; cases h
  | some e =>
    rw [he] at h
    obtain ⟨i, hi, rfl⟩ := List.mem_map.mp (show k ∈ (drvTo e hs d hs.length).map fun i : Nat => (Sum.inl (i : Int) : Key) from h)
    obtain ⟨h1, h2⟩ := List.mem_filter.mp hi
    unfold fitAt at h2
    cases hx : hs[i]? with
    | none => rw [hx] at h2; cases h2
    | some x => rw [hx] at h2; exact ⟨i, e, x, rfl, rfl, hx, h2⟩
theorem hold_ok {es : List Eng} {hs : List Hnd} {d : Int} (h1 : es.length ≤ 24) (h2 : hs.length ≤ 60) : HoldOk es hs d ((prsOf (wsK es hs d)).map toN) ∧ (prsOf (wsK es hs d)).map optD = ((prsOf (wsK es hs d)).map toN).map optN := by
  have T := told (wsK_pre (d := d) h1 h2)
  have key : ∀ o ∈ prsOf (wsK es hs d), o = none ∨ ∃ i : Nat, o = some (.inl (i : Int)) := fun o ho => by
    cases o with
    | none => exact .inl rfl
    | some k =>
      obtain ⟨v, hv⟩ := List.mem_iff_getElem?.mp ho
      obtain ⟨i, _, _, rfl, _⟩ := wsK_mem (T.fit v k hv)
      exact .inr ⟨i, rfl⟩
  have e1 : ((prsOf (wsK es hs d)).map toN).filterMap id = ((prsOf (wsK es hs d)).filterMap id).filterMap fun k => toN (some k) := by
    rw [List.filterMap_map, List.filterMap_filterMap]
    congr 1
    funext o
    cases o <;> rfl
  have keys : ∀ k ∈ (prsOf (wsK es hs d)).filterMap id, ∃ i : Nat, k = .inl (i : Int) := fun k hk => by
    obtain ⟨o, ho, eo⟩ := List.mem_filterMap.mp hk
    rcases key o ho with rfl | ⟨i, rfl⟩
    · cases eo
    · exact ⟨i, (Option.some.inj eo).symm⟩
  refine ⟨⟨?_, fun v i hv => ?_, ?_, ?_⟩, ?_⟩
  · rw [List.length_map, T.len]; unfold wsK; rw [List.length_map]
  · rw [List.getElem?_map] at hv
    obtain ⟨o, ho, hn⟩ := Option.map_eq_some_iff.mp hv
    rcases key o (List.mem_of_getElem? ho) with rfl | ⟨j, rfl⟩
    · cases hn
    · have e1 : j = i := by have := Option.some.inj (show some ((j : Int).toNat) = some i from hn); simpa using this
      subst e1
      obtain ⟨i', e, x, ek, he, hx, hf⟩ := wsK_mem (T.fit v _ ho)
      have : i' = j := by have := Sum.inl.inj ek; omega
      subst this
      exact ⟨e, x, he, hx, hf⟩
  · rw [e1]
    have nd := T.nd
    generalize (prsOf (wsK es hs d)).filterMap id = L at nd keys
    induction L with
    | nil => exact List.nodup_nil
    | cons k L ih =>
      obtain ⟨i, rfl⟩ := keys k (List.mem_cons_self ..)
      rw [List.nodup_cons] at nd
      rw [List.filterMap_cons]
      show (((i : Int).toNat) :: _).Nodup
      rw [List.nodup_cons]
      refine ⟨fun hm => ?_, ih nd.2 fun k hk => keys k (List.mem_cons_of_mem _ hk)⟩
      obtain ⟨k', hk', e'⟩ := List.mem_filterMap.mp hm
      obtain ⟨j, rfl⟩ := keys k' (List.mem_cons_of_mem _ hk')
      have : (j : Int).toNat = (i : Int).toNat := Option.some.inj (show some ((j : Int).toNat) = some ((i : Int).toNat) from e')
      have : j = i := by simpa using this
      subst this
      exact nd.1 hk'
  · rw [e1, len_toN keys]
    have l0 : (wsK es hs d).length ≤ 63 := by unfold wsK; rw [List.length_map]; omega
    have l1 := somes_len (prsOf (wsK es hs d))
    have l2 := count_none (wsK es hs d) l0
    have l3 := T.len
    omega
  · rw [List.map_map]
    refine List.map_congr_left fun o ho => ?_
    rcases key o ho with rfl | ⟨i, rfl⟩
    · rfl
    · show D.int (i : Int) = .int (((i : Int).toNat : Nat) : Int)
      simp
end DL
namespace DL
open PySem L2 Tx20 Tx21 Pair
def qCrews (sp_drivers_for : DSp) (sp_is_on_watch : DSp) (sp_paired : DSp) : DTS :=
  (qSeq (qAsg (qOp dIx (qCall sp_paired [] (qCons (qLc false (qiAny (qVar 0)) (gNameD 6) qYes (qCall sp_drivers_for [] (qCons (qVar 6) (qCons (qVar 1) (qCons (qVar 2) qNil)))) [6]) qNil)) (qC (.int 0))) (gNameD 3))
  (qSeq (qAsg (qCB dDict (qCons (qLc false (qiAny (qVar 3)) (gNameD 7) (qTB (qOp (dIs true) (qVar 7) (qC .non))) (qTup (qCons (qOp dIx (qOp dIx (qVar 1) (qVar 7)) (qC (.int 0))) (qCons (qC (.bl true)) qNil))) [7]) qNil)) (gNameD 4))
  (qSeq (qAsg (qLst true qNil) (gNameD 5))
  (qSeq (qFor (qiZipS (qCons (qVar 0) (qCons (qVar 3) qNil)) (qCons (qC (.bl true)) qNil)) (gTupD 2 (gConsD (gNameD 6) (gConsD (gNameD 7) gNilD)))
  (qSeq (qPar 8 9 (qCons (qC .non) (qCons (qLst true qNil) qNil)))
  (qSeq (qIfS (qTB (qOp (dIs true) (qVar 7) (qC .non)))
  (qSeq (qAsg (qOp dIx (qOp dIx (qVar 1) (qVar 7)) (qC (.int 0))) (gNameD 8))
  (qSeq (qAsg (qLc false (qiAny (qVar 1)) (gNameD 12) (qAnd (qTB (qOp (dEq false) (qOp dIx (qVar 12) (qC (.int 1))) (qOp dIx (qVar 6) (qC (.int 2))))) (qTB (qCall sp_is_on_watch [] (qCons (qVar 12) (qCons (qVar 2) qNil))))) (qVar 12) [12]) (gNameD 10))
  (qSeq (qAsg (qCB (dSortT false) (qCons (qLc false (qiAny (qVar 10)) (gNameD 12) (qTB (qOp (dIn true) (qOp dIx (qVar 12) (qC (.int 0))) (qVar 4))) (qOp dIx (qVar 12) (qC (.int 0))) [12]) qNil)) (gNameD 11))
  (qSeq (qAsg (qSl true (qVar 11) qNoPart (qPart (qOp (dInt0 fun i j => i - j) (qOp dIx (qVar 6) (qC (.int 3))) (qC (.int 1))))) (gNameD 9))
  (qDrop (qBMD mUpdD (qVar 4) (qCons (qFrzE (qCB dDict (qCons (qLc false (qiAny (qVar 9)) (gNameD 13) qYes (qTup (qCons (qVar 13) (qCons (qC (.bl true)) qNil))) [13]) qNil))) qNil)))))))
  qNext)
  (qDrop (qBM "list" mApp (qVar 5) (qCons (qTup (qCons (qOp dIx (qVar 6) (qC (.int 0))) (qCons (qVar 8) (qCons (qVar 9) qNil)))) qNil))))))
  (qRet (qVar 5))))))
theorem putD_mem {kvs : List (Key × D)} {k k' : Key} {v : D} : k' ∈ (putD kvs k v).map (·.1) ↔ k' ∈ kvs.map (·.1) ∨ k' = k := by
  unfold putD
  by_cases h : kvs.any (fun kv => decide (kv.1 = k)) = true
  · rw [if_pos h]
    have e : (kvs.map fun kv => if kv.1 = k then (kv.1, v) else kv).map (·.1) = kvs.map (·.1) := by
      rw [List.map_map]
      refine List.map_congr_left fun q _ => ?_
      show (if q.1 = k then (q.1, v) else q).1 = q.1
      split <;> rfl
    rw [e]
    refine ⟨.inl, fun h' => h'.elim id fun h' => ?_⟩
    subst h'
    obtain ⟨q, hq, e'⟩ := List.any_eq_true.mp h
    rw [← of_decide_eq_true e']
    exact List.mem_map_of_mem hq
  · rw [if_neg h, List.map_append, List.mem_append]
    simp
theorem putAllD_mem {k' : Key} : ∀ {more kvs : List (Key × D)}, k' ∈ (putAllD kvs more).map (·.1) ↔ k' ∈ kvs.map (·.1) ∨ k' ∈ more.map (·.1)
  | [], kvs => by simp [putAllD]
  | q :: more, kvs => by
    show k' ∈ (putAllD (putD kvs q.1 q.2) more).map (·.1) ↔ _
    rw [putAllD_mem, putD_mem, List.map_cons, List.mem_cons, or_assoc]
theorem putD_len {kvs : List (Key × D)} {k : Key} {v : D} : (putD kvs k v).length ≤ kvs.length + 1 := by
  unfold putD
  split
  · rw [List.length_map]; omega
  · simp
theorem putAllD_len : ∀ {more kvs : List (Key × D)}, (putAllD kvs more).length ≤ kvs.length + more.length
  | [], kvs => by simp [putAllD]
  | q :: more, kvs => by
    have h1 := putAllD_len (more := more) (kvs := putD kvs q.1 q.2)
    have h2 := putD_len (kvs := kvs) (k := q.1) (v := q.2)
    show (putAllD (putD kvs q.1 q.2) more).length ≤ _
    rw [List.length_cons]; omega
theorem valD_some {k : Key} : ∀ {kvs : List (Key × D)}, (valD kvs k).isSome = decide (k ∈ kvs.map (·.1))
  | [] => by simp [valD]
  | q :: kvs => by
    by_cases e : q.1 = k
    · simp [valD, e]
    · have ih := valD_some (k := k) (kvs := kvs)
      have e' : valD (q :: kvs) k = valD kvs k := by simp [valD, e]
      rw [e', ih]
      refine decide_eq_decide.mpr ⟨fun h => List.mem_cons_of_mem _ h, fun h => ?_⟩
      rw [List.map_cons, List.mem_cons] at h
      exact h.resolve_left fun h => e h.symm
theorem in_dK {neg : Bool} {z : Str} {a : Addr} {kvs : List (Key × D)} {M : Mst} {Q : DK} (h : M a = some (.dK kvs)) : dIn neg (.str z) (.ref a) M Q = Q (.bl (xor neg (decide ((Sum.inr z : Key) ∈ kvs.map (·.1))))) M := by
  have hd : dgetD M (.ref a) (.str z) = some (valD kvs (.inr z)) := by simp only [dgetD, h, keyD, Option.map_some]
  unfold dIn
  rw [hd, ← valD_some]
theorem pairs_strs : ∀ ns : List Str, pairsD (ns.map fun z => D.tup [.str z, .bl true]) = some (ns.map fun z => ((Sum.inr z : Key), D.bl true))
  | [] => rfl
  | z :: ns => by
    rw [List.map_cons, pairsD, pairs_strs ns]; rfl
/-- what is taken, as the dict at a tells it -/
structure TakenAt (M : Mst) (a : Addr) (tk : List Str) (n : Nat) : Prop where
  ex : ∃ kvs, M a = some (.dK kvs) ∧ (∀ z : Str, (Sum.inr z : Key) ∈ kvs.map (·.1) ↔ z ∈ tk) ∧ kvs.length ≤ n
def drvName (hs : List Hnd) (o : Option Nat) : Option Str := o.bind fun i => (hs[i]?).map (·.1)
/-- a row of the crews -/
def optS : Option Str → D
  | none => .non
  | some z => .str z
/-- the first rows as they stand in memory -/
structure RowsAt (M M' : Mst) (hs : List Hnd) (t : Addr) (prs : List (Eng × Option Str)) (ots : List (List Str)) (q : Nat → Addr) : Prop where
  at_ : M' t = some (.lst ((prs.zipIdx).map fun x => .tup [.str x.1.1.1, optS x.1.2, .ref (q x.2)]))
  ls : ∀ (v : Nat) (o : List Str), ots[v]? = some o → M' (q v) = some (.lst (o.map .str))
  fr : ∀ v, v < prs.length → M (q v) = none ∧ q v ≠ t
  inj : ∀ v w, v < prs.length → w < prs.length → q v = q w → v = w
structure CrewPre (es : List Eng) (hs : List Hnd) (d : Int) : Prop where
  e : es.length ≤ 24
  h : HandsQ hs
  d0 : 0 ≤ d
  d1 : d ≤ 1000
  s : ∀ e ∈ es, 1 ≤ e.2.2.2 ∧ e.2.2.2 ≤ 9
def spCrews : DSp := fun ds M Q _ => ∃ (es : List Eng) (hs : List Hnd) (d : Int), ds = [.tup (es.map egD), .tup (hs.map hnD), .int d] ∧ CrewPre es hs d ∧
  ∀ H, HoldOk es hs d H → ∀ t q M', M t = none → RowsAt M M' hs t (es.zip (H.map (drvName hs))) (othL hs d (es.zip (H.map (drvName hs))) (H.filterMap (drvName hs))) q → (∀ a o, M a = some o → M' a = some o) → Q (.ref t) M'
theorem fm_if {α : Type} {g g' : α → D} {P : α → Bool} {f : D → Option D} (hf : ∀ a, f (g a) = if P a = true then some (g' a) else none) : ∀ l : List α, (l.map g).filterMap f = (l.filter P).map g'
  | [] => rfl
  | a :: l => by
    rw [List.map_cons, List.filterMap_cons, hf a, List.filter_cons]
    cases c : P a with
    | true => simp only [if_true, List.map_cons, fm_if hf l]
    | false => simp only [Bool.false_eq_true, if_false, fm_if hf l]
theorem txL_strs' : ∀ l : List Str, txL (l.map D.str) = some l
  | [] => rfl
  | z :: l => by rw [List.map_cons, txL, txL_strs' l]
/-- behind the first i engines -/
structure CrI (M M' : Mst) (hs : List Hnd) (d : Int) (prs : List (Eng × Option Str)) (tk0 : List Str) (a4 t : Addr) (i : Nat) (tk : List Str) (ots : List (List Str)) (q : Nat → Addr) : Prop where
  tkn : TakenAt M' a4 tk (24 + 9 * i)
  rows : RowsAt M M' hs t (prs.take i) ots q
  qa : ∀ v, v < i → q v ≠ a4
  ol : ots.length = i
  oth : othL hs d prs tk0 = ots ++ othL hs d (prs.drop i) tk
  kp : ∀ a o, M a = some o → M' a = some o
theorem CrI.step {M M' M2 : Mst} {hs : List Hnd} {d : Int} {prs : List (Eng × Option Str)} {tk0 : List Str} {a4 t a9 : Addr} {i : Nat} {tk : List Str} {ots : List (List Str)} {q : Nat → Addr} {e : Eng} {o : Option Str}
    (I : CrI M M' hs d prs tk0 a4 t i tk ots q) (hp : prs[i]? = some (e, o)) (h4 : M a4 = none) (ht : M t = none) (h9 : M' a9 = none) (n9t : a9 ≠ t) (n94 : a9 ≠ a4)
    (e4 : TakenAt M2 a4 (tk ++ pick hs d e tk o) (24 + 9 * (i + 1))) (et : M2 t = some (.lst (((prs.take i).zipIdx.map fun x => D.tup [.str x.1.1.1, optS x.1.2, .ref (q x.2)]) ++ [.tup [.str e.1, optS o, .ref a9]])))
    (e9 : M2 a9 = some (.lst ((pick hs d e tk o).map .str))) (ek : ∀ b u, b ≠ a4 → b ≠ t → M' b = some u → M2 b = some u) :
    CrI M M2 hs d prs tk0 a4 t (i + 1) (tk ++ pick hs d e tk o) (ots ++ [pick hs d e tk o]) (fun v => if v = i then a9 else q v) := by
  have hi : i < prs.length := (List.getElem?_eq_some_iff.mp hp).1
  have tl : (prs.take i).length = i := by rw [List.length_take]; omega
  have tk1 : prs.take (i + 1) = prs.take i ++ [(e, o)] := by rw [List.take_add_one, hp]; rfl
  have h9M : M a9 = none := by
    cases c : M a9 with
    | none => rfl
    | some u => rw [I.kp _ _ c] at h9; cases h9
  have q9 : ∀ v, v < i → q v ≠ a9 := fun v hv c => by
    obtain ⟨w, hw⟩ : ∃ w, ots[v]? = some w := ⟨ots[v]'(by rw [I.ol]; exact hv), List.getElem?_eq_getElem _⟩
    have := I.rows.ls v w hw
    rw [c, h9] at this; cases this
  refine ⟨e4, ⟨?_, fun v w hv => ?_, fun v hv => ?_, fun v w hv hw hvw => ?_⟩, fun v hv => ?_, by rw [List.length_append, I.ol]; rfl, ?_, fun a u hu => ?_⟩
  · rw [et, tk1, List.zipIdx_append, List.map_append, tl]
    congr 2
    have e1 : ((prs.take i).zipIdx.map fun x => D.tup [.str x.1.1.1, optS x.1.2, .ref (q x.2)]) = (prs.take i).zipIdx.map fun x => D.tup [.str x.1.1.1, optS x.1.2, .ref (if x.2 = i then a9 else q x.2)] := by
      refine List.map_congr_left fun x hx => ?_
      have hx2 := List.snd_lt_of_mem_zipIdx hx
      rw [tl] at hx2
      rw [if_neg (by omega)]
    rw [e1]
    simp
  · by_cases c : v = i
    · subst c
      rw [if_pos rfl]
      rw [List.getElem?_append_right (by rw [I.ol]; exact Nat.le_refl _), I.ol, Nat.sub_self] at hv
      cases hv
      exact e9
    · have hv2 : v < (ots ++ [pick hs d e tk o]).length := (List.getElem?_eq_some_iff.mp hv).1
      rw [List.length_append, I.ol] at hv2
      have hvi : v < i := by simp at hv2; omega
      rw [if_neg c]
      rw [List.getElem?_append_left (by rw [I.ol]; exact hvi)] at hv
      exact ek _ _ (I.qa v hvi) (I.rows.fr v (by rw [tl]; exact hvi)).2 (I.rows.ls v w hv)
  · rw [tk1, List.length_append, tl] at hv
    by_cases c : v = i
    · rw [if_pos c]; exact ⟨h9M, n9t⟩
    · rw [if_neg c]; exact I.rows.fr v (by rw [tl]; simp at hv; omega)
  · rw [tk1, List.length_append, tl] at hv hw
    simp only [List.length_cons, List.length_nil] at hv hw
    by_cases c : v = i
    · by_cases c' : w = i
      · rw [c, c']
      · rw [if_pos c, if_neg c'] at hvw
        exact absurd hvw.symm (q9 w (by omega))
    · by_cases c' : w = i
      · rw [if_neg c, if_pos c'] at hvw
        exact absurd hvw (q9 v (by omega))
      · rw [if_neg c, if_neg c'] at hvw
        exact I.rows.inj v w (by rw [tl]; omega) (by rw [tl]; omega) hvw
  · by_cases c : v = i
    · rw [if_pos c]; exact n94
    · rw [if_neg c]; exact I.qa v (by omega)
  · rw [I.oth, show prs.drop i = (e, o) :: prs.drop (i + 1) from by
      obtain ⟨h1, h2⟩ := List.getElem?_eq_some_iff.mp hp
      rw [← h2]; exact List.drop_eq_getElem_cons h1, othL, List.append_assoc]
    rfl
  · refine ek a u (fun c => ?_) (fun c => ?_) (I.kp a u hu)
    · rw [c, h4] at hu; cases hu
    · rw [c, ht] at hu; cases hu
theorem crews_ok (ds : List D) (M : Mst) (Q : DK) (Ed : DX → Mst → Prop) (h : upSp spCrews ds M Q Ed) : qCrews spDrv spOnW spPaired (fun x _ M => Ed x M) (retE Q) (startD ["engines", "hands", "day", "holders", "taken", "found", "engine", "holder", "driver", "others", "free", "names", "hand", "name"] ds) M := by
  obtain ⟨Q0, E0, ⟨es, hs, d, rfl, pre, k0⟩, kq, _⟩ := h
  show qCrews _ _ _ _ _ [some (.tup (es.map egD)), some (.tup (hs.map hnD)), some (.int d), none, none, none, none, none, none, none, none, none, none, none] M
  obtain ⟨le, hq, d0, d1, hs9⟩ := pre
  have lh := hq.le
  simp only [qCrews, qLc, qiAny, qSeq, qAsg, qTup, qCons, qNil, qOp, qUn, qC, qCall, qVar, qLst, newL_f, qIfS, qTB, qNext, qRet, qDrop, qFor, qCB, qAug, qSl, qPart, qNoPart, gNameD, gSub_eq, dInt_i, dInt0_i, dAdd_i, dCmpI_i, List.set_cons_zero, List.set_cons_succ, List.getElem?_cons_zero, List.getElem?_cons_succ, List.append_nil, z_l0, z_l1, z_l2, z_l3, z_l4, z_l5, z_l6, z_l7, z_l8, z_l9, z_l19, z_l24, z_l25, true_and]
  intro a1 ha1
  refine lcN ha1 (fun _ => trivial) (by rw [List.length_map]; omega) (fun x => match x with | .tup [.str a, .str b, .str c, .int n] => .lst (natsD (drvTo (a, b, c, n) hs d hs.length)) | _ => .non) (fun x hx M' R S hR => ?_) ?_
  · obtain ⟨e, he, rfl⟩ := List.mem_map.mp hx
    simp only [wipeD, qSeq, qAsg, qTup, qCons, qNil, qOp, qUn, qC, qCall, qVar, qLst, newL_f, qIfS, qTB, qNext, qRet, qDrop, qFor, qCB, qAug, qSl, qPart, qNoPart, gNameD, gSub_eq, dInt_i, dInt0_i, dAdd_i, dCmpI_i, List.set_cons_zero, List.set_cons_succ, List.getElem?_cons_zero, List.getElem?_cons_succ, List.append_nil, z_l0, z_l1, z_l2, z_l3, z_l4, z_l5, z_l6, z_l7, z_l8, z_l9, z_l19, z_l24, z_l25, true_and]
    exact ⟨e, hs, d, rfl, d0, d1, hq, hR⟩
  have ew : (D.lst ((es.map egD).map (fun x => match x with | .tup [.str a, .str b, .str c, .int n] => .lst (natsD (drvTo (a, b, c, n) hs d hs.length)) | _ => .non))) = wsD (wsK es hs d) := by
    unfold wsD wsK
    rw [List.map_map, List.map_map]
    congr 1
    refine List.map_congr_left fun e _ => ?_
    show D.lst (natsD (drvTo e hs d hs.length)) = Pair.wD _
    unfold Pair.wD natsD
    rw [List.map_map]; rfl
  rw [ew]
  obtain ⟨HO, eo⟩ := hold_ok (d := d) le lh
  refine ⟨wsK es hs d, rfl, wsK_pre le lh, ?_⟩
  rw [eo]
  generalize (prsOf (wsK es hs d)).map toN = H at HO
  have k1 := k0 H HO
  simp only [z_ix_t0, qSeq, qAsg, qTup, qCons, qNil, qOp, qUn, qC, qCall, qVar, qLst, newL_f, qIfS, qTB, qNext, qRet, qDrop, qFor, qCB, qAug, qSl, qPart, qNoPart, gNameD, gSub_eq, dInt_i, dInt0_i, dAdd_i, dCmpI_i, List.set_cons_zero, List.set_cons_succ, List.getElem?_cons_zero, List.getElem?_cons_succ, List.append_nil, z_l0, z_l1, z_l2, z_l3, z_l4, z_l5, z_l6, z_l7, z_l8, z_l9, z_l19, z_l24, z_l25, true_and]
  intro a2 ha2
  have inH : ∀ i, some i ∈ H → ∃ h, hs[i]? = some h := fun i hi => by
    obtain ⟨v, hv⟩ := List.mem_iff_getElem?.mp hi
    obtain ⟨_, h, _, hh, _⟩ := HO.fit v i hv
    exact ⟨h, hh⟩
  have lenH : H.length = es.length := HO.len
  let fT : D → Option D := fun x => match x with | .int i => (drvName hs (some i.toNat)).map (fun z => .tup [.str z, .bl true]) | _ => none
  refine compL_map ha2 fT (fun _ => trivial) (by rw [List.length_map]; omega) (fun x hx acc R hR => ?_) ?_
  · obtain ⟨o, ho, rfl⟩ := List.mem_map.mp hx
    cases o with
    | none =>
      simp only [optN, wipeD, z_isnot, isNon, Bool.not_true, Bool.false_eq_true, if_false, qSeq, qAsg, qTup, qCons, qNil, qOp, qUn, qC, qCall, qVar, qLst, newL_f, qIfS, qTB, qNext, qRet, qDrop, qFor, qCB, qAug, qSl, qPart, qNoPart, gNameD, gSub_eq, dInt_i, dInt0_i, dAdd_i, dCmpI_i, List.set_cons_zero, List.set_cons_succ, List.getElem?_cons_zero, List.getElem?_cons_succ, List.append_nil, z_l0, z_l1, z_l2, z_l3, z_l4, z_l5, z_l6, z_l7, z_l8, z_l9, z_l19, z_l24, z_l25, true_and]
      exact hR
    | some i =>
      obtain ⟨h, hh⟩ := inH i ho
      have e1 : fT (optN (some i)) = some (.tup [.str h.1, .bl true]) := by
        show (drvName hs (some ((i : Int)).toNat)).map _ = _
        rw [Int.toNat_natCast]
        unfold drvName
        rw [Option.bind_some, hh]; rfl
      rw [e1] at hR
      have e2 : ∀ (M : Mst) (R : DK), dIx (.tup (hs.map hnD)) (.int (i : Int)) M R = R (hnD h) M := fun M R => ix_tn (by rw [List.getElem?_map, hh]; rfl)
      simp only [optN, wipeD, z_isnot, isNon, Bool.not_false, if_true, qSeq, qAsg, qTup, qCons, qNil, qOp, qUn, qC, qCall, qVar, qLst, newL_f, qIfS, qTB, qNext, qRet, qDrop, qFor, qCB, qAug, qSl, qPart, qNoPart, gNameD, gSub_eq, dInt_i, dInt0_i, dAdd_i, dCmpI_i, List.set_cons_zero, List.set_cons_succ, List.getElem?_cons_zero, List.getElem?_cons_succ, List.append_nil, z_l0, z_l1, z_l2, z_l3, z_l4, z_l5, z_l6, z_l7, z_l8, z_l9, z_l19, z_l24, z_l25, true_and, e2, hd0]
      exact hR
  have ef : (H.map optN).filterMap fT = (H.filterMap (drvName hs)).map fun z => D.tup [.str z, .bl true] := by
    rw [List.filterMap_map, List.map_filterMap]
    congr 1
    funext o
    cases o with
    | none => rfl
    | some i =>
      show (drvName hs (some ((i : Int)).toNat)).map _ = _
      rw [Int.toNat_natCast]
  have l0 : (H.filterMap (drvName hs)).length ≤ 24 := Nat.le_trans (List.length_filterMap_le ..) (by omega)
  simp only [Bool.false_eq_true, if_false, ef, dDict, res_lst, pairs_strs, newL_t]
  refine ⟨by rw [List.length_map]; omega, fun a4 ha4 t ht => ?_⟩
  have T0 : TakenAt (put (put M a4 (.dK (putAllD [] ((H.filterMap (drvName hs)).map fun z => ((Sum.inr z : Key), D.bl true))))) t (.lst [])) a4 (H.filterMap (drvName hs)) 24 := by
    refine ⟨_, put_keep put_same ht, fun z => ?_, Nat.le_trans putAllD_len (by simp; omega)⟩
    rw [putAllD_mem, List.map_map]
    simp [List.mem_map]
  have n4 : a4 ≠ t := fun e => by rw [← e, put_same] at ht; cases ht
  have htM : M t = none := by rw [put_ne n4.symm] at ht; exact ht
  have keep0 : ∀ a o, M a = some o → put (put M a4 (.dK (putAllD [] ((H.filterMap (drvName hs)).map fun z => ((Sum.inr z : Key), D.bl true))))) t (.lst []) a = some o := fun a o e => put_keep (put_keep e ha4) ht
  have tl0 : put (put M a4 (.dK (putAllD [] ((H.filterMap (drvName hs)).map fun z => ((Sum.inr z : Key), D.bl true))))) t (.lst []) t = some (.lst []) := put_same
  generalize put (put M a4 (.dK (putAllD [] ((H.filterMap (drvName hs)).map fun z => ((Sum.inr z : Key), D.bl true))))) t (.lst []) = M0 at T0 keep0 tl0 ⊢
  simp only [qiZipS, qSeq, qAsg, qTup, qCons, qNil, qOp, qUn, qC, qCall, qVar, qLst, newL_f, qIfS, qTB, qNext, qRet, qDrop, qFor, qCB, qAug, qSl, qPart, qNoPart, gNameD, gSub_eq, dInt_i, dInt0_i, dAdd_i, dCmpI_i, List.set_cons_zero, List.set_cons_succ, List.getElem?_cons_zero, List.getElem?_cons_succ, List.append_nil, z_l0, z_l1, z_l2, z_l3, z_l4, z_l5, z_l6, z_l7, z_l8, z_l9, z_l19, z_l24, z_l25, true_and, tupAt, lstAt, List.length_map, lenH, true_and]
  have lp : (es.zip (H.map (drvName hs))).length = es.length := by rw [List.length_zip, List.length_map, lenH]; omega
  refine loopL_inv (fun i p M' => ∃ (tk : List Str) (ots : List (List Str)) (q : Nat → Addr) (p6 p7 p8 p9 p10 p11 p12 p13 : Option D), p = [some (.tup (es.map egD)), some (.tup (hs.map hnD)), some (.int d), some (.lst (H.map optN)), some (.ref a4), some (.ref t), p6, p7, p8, p9, p10, p11, p12, p13] ∧ CrI M M' hs d (es.zip (H.map (drvName hs))) (H.filterMap (drvName hs)) a4 t i tk ots q) (n := es.length) (by rw [zipD_length, List.length_map, List.length_map, lenH]; omega) (fun i x p M' R hd' hI hR => ?_) (fun p M' hI => ?_)
    ⟨_, [], fun _ => 0, _, _, _, _, _, _, _, _, rfl, ⟨T0, ⟨by rw [tl0]; rfl, (fun v o h => by simp at h), (fun v h => by simp at h), (fun v w h => by simp at h)⟩, (fun v h => absurd h (Nat.not_lt_zero _)), rfl, rfl, keep0⟩⟩
  rotate_left
  · obtain ⟨tk, ots, q, p6, p7, p8, p9, p10, p11, p12, p13, rfl, I⟩ := hI
    refine ⟨trivial, ?_⟩
    have e1 : (es.zip (H.map (drvName hs))).take es.length = es.zip (H.map (drvName hs)) := by rw [← lp, List.take_length]
    have e2 : othL hs d (es.zip (H.map (drvName hs))) (H.filterMap (drvName hs)) = ots := by
      rw [I.oth, ← lp, List.drop_length]; unfold othL; rw [List.append_nil]
    have hr := I.rows
    rw [e1, ← e2] at hr
    exact kq _ _ _ (Sub.refl _) (k1 t q M' htM hr I.kp)
  obtain ⟨tk, ots, q, p6, p7, p8, p9, p10, p11, p12, p13, rfl, I⟩ := hI
  rw [zipD_get, List.getElem?_map, List.getElem?_map] at hd'
  cases he : es[i]? with
  | none => rw [he] at hd'; simp at hd'
  | some e =>
  cases hho : H[i]? with
  | none => rw [he, hho] at hd'; simp at hd'
  | some o =>
  rw [he, hho] at hd'
  simp only [Option.map_some, Option.some.injEq] at hd'
  subst hd'
  have hpi : (es.zip (H.map (drvName hs)))[i]? = some (e, drvName hs o) := by
    rw [List.getElem?_zip_eq_some]
    exact ⟨he, by rw [List.getElem?_map, hho]; rfl⟩
  have hi : i < es.length := (List.getElem?_eq_some_iff.mp he).1
  have rl : ((es.zip (H.map (drvName hs))).take i).length = i := by rw [List.length_take, lp]; omega
  have tM := I.rows.at_
  obtain ⟨kvs, h4, mem4, len4⟩ := I.tkn.ex
  refine ⟨trivial, ?_⟩
  simp only [gTupD, gConsD, gNilD, qPar, newL_t, qSeq, qAsg, qTup, qCons, qNil, qOp, qUn, qC, qCall, qVar, qLst, newL_f, qIfS, qTB, qNext, qRet, qDrop, qFor, qCB, qAug, qSl, qPart, qNoPart, gNameD, gSub_eq, dInt_i, dInt0_i, dAdd_i, dCmpI_i, List.set_cons_zero, List.set_cons_succ, List.getElem?_cons_zero, List.getElem?_cons_succ, List.append_nil, z_l0, z_l1, z_l2, z_l3, z_l4, z_l5, z_l6, z_l7, z_l8, z_l9, z_l19, z_l24, z_l25, true_and]
  refine ⟨rfl, rfl, ?_⟩
  intro a8 ha8
  have n8t : a8 ≠ t := fun c => by rw [c, tM] at ha8; cases ha8
  have n84 : a8 ≠ a4 := fun c => by rw [c, h4] at ha8; cases ha8
  cases o with
  | none =>
    have t8 : put M' a8 (.lst []) t = some (.lst ((((es.zip (H.map (drvName hs))).take i).zipIdx.map fun x => D.tup [.str x.1.1.1, optS x.1.2, .ref (q x.2)]))) := by rw [put_ne n8t.symm]; exact tM
    simp only [optN, z_isnot, isNon, Bool.not_true, Bool.false_eq_true, if_false, qSeq, qAsg, qTup, qCons, qNil, qOp, qUn, qC, qCall, qVar, qLst, newL_f, qIfS, qTB, qNext, qRet, qDrop, qFor, qCB, qAug, qSl, qPart, qNoPart, gNameD, gSub_eq, dInt_i, dInt0_i, dAdd_i, dCmpI_i, List.set_cons_zero, List.set_cons_succ, List.getElem?_cons_zero, List.getElem?_cons_succ, List.append_nil, z_l0, z_l1, z_l2, z_l3, z_l4, z_l5, z_l6, z_l7, z_l8, z_l9, z_l19, z_l24, z_l25, true_and, qBM, eg0, mApp, t8, res_r t8, tyOk]
    refine ⟨by decide, by simp [rl]; omega, hR _ _ ⟨_, _, _, _, _, _, _, _, _, _, _, rfl, I.step hpi ha4 htM ha8 n8t n84 ⟨kvs, ?_, fun z => ?_, by omega⟩ ?_ ?_ fun b u h1 h2 h3 => ?_⟩⟩
    · rw [put_ne n4, put_ne n84.symm]; exact h4
    · rw [mem4]; simp [pick, drvName]
    · rw [put_same]; rfl
    · rw [put_ne n8t, put_same]; rfl
    · rw [put_ne h2]; exact put_keep h3 ha8
  | some j =>
    obtain ⟨h, hh⟩ := inH j (List.mem_of_getElem? hho)
    have en : drvName hs (some j) = some h.1 := by unfold drvName; rw [Option.bind_some, hh]; rfl
    have ej : ∀ (M : Mst) (R : DK), dIx (.tup (hs.map hnD)) (.int (j : Int)) M R = R (hnD h) M := fun M R => ix_tn (by rw [List.getElem?_map, hh]; rfl)
    simp only [optN, z_isnot, isNon, Bool.not_false, if_true, qSeq, qAsg, qTup, qCons, qNil, qOp, qUn, qC, qCall, qVar, qLst, newL_f, qIfS, qTB, qNext, qRet, qDrop, qFor, qCB, qAug, qSl, qPart, qNoPart, gNameD, gSub_eq, dInt_i, dInt0_i, dAdd_i, dCmpI_i, List.set_cons_zero, List.set_cons_succ, List.getElem?_cons_zero, List.getElem?_cons_succ, List.append_nil, z_l0, z_l1, z_l2, z_l3, z_l4, z_l5, z_l6, z_l7, z_l8, z_l9, z_l19, z_l24, z_l25, true_and, ej, hd0, qLc, qiAny]
    intro a10 ha10
    let P1 : Hnd → Bool := fun h => decide (h.2.1 = e.2.2.1) && onW h d
    let f1 : D → Option D := fun x => match x with | .tup [.str _, .str s, .int k, _] => if (decide (s = e.2.2.1) && decide ((d + k) % 4 < 2)) = true then some x else none | _ => none
    have hf1 : ∀ h : Hnd, f1 (hnD h) = if P1 h = true then some (hnD h) else none := fun h => rfl
    refine compL_map ha10 f1 (fun _ => trivial) (by rw [List.length_map]; omega) (fun x hx acc R2 hR2 => ?_) ?_
    · obtain ⟨y, hy, rfl⟩ := List.mem_map.mp hx
      rw [hf1] at hR2
      obtain ⟨s0, s1, sk⟩ := hq.ok y hy
      simp only [wipeD, qAnd, hd1, eg2, z_eq_str, qSeq, qAsg, qTup, qCons, qNil, qOp, qUn, qC, qCall, qVar, qLst, newL_f, qIfS, qTB, qNext, qRet, qDrop, qFor, qCB, qAug, qSl, qPart, qNoPart, gNameD, gSub_eq, dInt_i, dInt0_i, dAdd_i, dCmpI_i, List.set_cons_zero, List.set_cons_succ, List.getElem?_cons_zero, List.getElem?_cons_succ, List.append_nil, z_l0, z_l1, z_l2, z_l3, z_l4, z_l5, z_l6, z_l7, z_l8, z_l9, z_l19, z_l24, z_l25, true_and]
      by_cases c1 : y.2.1 = e.2.2.1
      · simp only [c1, decide_true, if_true]
        refine ⟨y, d, rfl, d0, d1, s0, s1, ?_⟩
        cases c2 : onW y d with
        | true =>
          rw [if_pos (show P1 y = true by show (decide (y.2.1 = e.2.2.1) && onW y d) = true; rw [c2, decide_eq_true c1]; rfl)] at hR2
          simp only [if_true]; exact hR2
        | false =>
          rw [if_neg (show ¬ P1 y = true by show ¬ (decide (y.2.1 = e.2.2.1) && onW y d) = true; rw [c2]; simp)] at hR2
          simp only [Bool.false_eq_true, if_false]; exact hR2
      · rw [if_neg (show ¬ P1 y = true by show ¬ (decide (y.2.1 = e.2.2.1) && onW y d) = true; rw [decide_eq_false c1]; simp)] at hR2
        simp only [c1, decide_false, Bool.false_eq_true, if_false]; exact hR2
    have h48 : put M' a8 (.lst []) a4 = some (.dK kvs) := by rw [put_ne n84.symm]; exact h4
    simp only [Bool.false_eq_true, if_false, fm_if hf1]
    intro a11 ha11
    let P2 : Hnd → Bool := fun h => decide (h.1 ∉ tk)
    let f2 : D → Option D := fun x => match x with | .tup (.str z :: _) => if decide (z ∉ tk) = true then some (.str z) else none | _ => none
    have hf2 : ∀ h : Hnd, f2 (hnD h) = if P2 h = true then some (.str h.1) else none := fun h => rfl
    have lf : ((hs.filter P1).map hnD).length ≤ 60 := by rw [List.length_map]; exact Nat.le_trans (List.length_filter_le ..) lh
    refine compL_map ha11 f2 (fun _ => trivial) (by omega) (fun x hx acc R2 hR2 => ?_) ?_
    · obtain ⟨y, hy, rfl⟩ := List.mem_map.mp hx
      rw [hf2] at hR2
      have h4a : put (put M' a8 (.lst [])) a11 (.lst acc) a4 = some (.dK kvs) := put_keep h48 ha11
      simp only [wipeD, hd0, in_dK h4a, qSeq, qAsg, qTup, qCons, qNil, qOp, qUn, qC, qCall, qVar, qLst, newL_f, qIfS, qTB, qNext, qRet, qDrop, qFor, qCB, qAug, qSl, qPart, qNoPart, gNameD, gSub_eq, dInt_i, dInt0_i, dAdd_i, dCmpI_i, List.set_cons_zero, List.set_cons_succ, List.getElem?_cons_zero, List.getElem?_cons_succ, List.append_nil, z_l0, z_l1, z_l2, z_l3, z_l4, z_l5, z_l6, z_l7, z_l8, z_l9, z_l19, z_l24, z_l25, true_and]
      by_cases c1 : y.1 ∈ tk
      · rw [if_neg (show ¬ P2 y = true by show ¬ decide (y.1 ∉ tk) = true; simp [c1])] at hR2
        simp only [show decide ((Sum.inr y.1 : Key) ∈ kvs.map (·.1)) = true from decide_eq_true ((mem4 _).mpr c1), Bool.xor_true, Bool.not_true, Bool.true_xor, Bool.false_eq_true, if_false]
        exact hR2
      · rw [if_pos (show P2 y = true by show decide (y.1 ∉ tk) = true; simp [c1])] at hR2
        simp only [show decide ((Sum.inr y.1 : Key) ∈ kvs.map (·.1)) = false from decide_eq_false (fun c => c1 ((mem4 _).mp c)), Bool.true_xor, Bool.not_false, if_true]
        exact hR2
    have eF : ((hs.filter P1).filter P2).map (fun h => D.str h.1) = ((freeN hs e d).filter fun z => decide (z ∉ tk)).map D.str := by
      unfold freeN
      rw [List.filter_map, List.map_map]; rfl
    simp only [Bool.false_eq_true, if_false, fm_if hf2, eF, dSortT, res_lst, txL_strs', newL_f]
    intro ys hp hw
    have hpw := sorted_pw hw
    have hk : (e.2.2.2 - 1) = (((e.2.2.2 - 1).toNat : Nat) : Int) := by have := hs9 e (List.mem_of_getElem? he); omega
    have hpk : pick hs d e tk (drvName hs (some j)) = ys.take (e.2.2.2 - 1).toNat := by rw [en]; exact pick_sorted hp hpw
    simp only [eg3, dInt0_i]
    rw [hk]
    simp only [dSl, res_lst, newL_t, cut_to]
    intro a9 ha9
    rw [← List.map_take]
    have lL : (ys.take (e.2.2.2 - 1).toNat).length ≤ 9 := by have := hs9 e (List.mem_of_getElem? he); rw [List.length_take]; omega
    generalize ys.take (e.2.2.2 - 1).toNat = L at hpk lL
    have t8 : put M' a8 (.lst []) t = some (.lst ((((es.zip (H.map (drvName hs))).take i).zipIdx.map fun x => D.tup [.str x.1.1.1, optS x.1.2, .ref (q x.2)]))) := by rw [put_ne n8t.symm]; exact tM
    have n9t : a9 ≠ t := fun c => by rw [c, t8] at ha9; cases ha9
    have n94 : a9 ≠ a4 := fun c => by rw [c, h48] at ha9; cases ha9
    have h9 : put (put M' a8 (.lst [])) a9 (.lst (L.map D.str)) a9 = some (.lst (L.map D.str)) := put_same
    have h49 : put (put M' a8 (.lst [])) a9 (.lst (L.map D.str)) a4 = some (.dK kvs) := put_keep h48 ha9
    have t9 : put (put M' a8 (.lst [])) a9 (.lst (L.map D.str)) t = _ := put_keep t8 ha9
    have k9 : ∀ b u, M' b = some u → put (put M' a8 (.lst [])) a9 (.lst (L.map D.str)) b = some u := fun b u hb => put_keep (put_keep hb ha8) ha9
    have h9M : M' a9 = none := by
      cases c : M' a9 with
      | none => rfl
      | some u => rw [put_keep c ha8] at ha9; cases ha9
    generalize put (put M' a8 (.lst [])) a9 (.lst (L.map D.str)) = M9 at h9 h49 t9 k9 ⊢
    simp only [qBMD, qFrzE, qLc, qiAny, h9, qSeq, qAsg, qTup, qCons, qNil, qOp, qUn, qC, qCall, qVar, qLst, newL_f, qIfS, qTB, qNext, qRet, qDrop, qFor, qCB, qAug, qSl, qPart, qNoPart, gNameD, gSub_eq, dInt_i, dInt0_i, dAdd_i, dCmpI_i, List.set_cons_zero, List.set_cons_succ, List.getElem?_cons_zero, List.getElem?_cons_succ, List.append_nil, z_l0, z_l1, z_l2, z_l3, z_l4, z_l5, z_l6, z_l7, z_l8, z_l9, z_l19, z_l24, z_l25, true_and]
    refine ⟨⟨a4, kvs, rfl, h49⟩, ?_⟩
    intro a12 ha12
    refine lcN ha12 (fun acc => put_keep h9 ha12) (by rw [List.length_map]; omega) (fun x => .tup [x, .bl true]) (fun x hx M3 R3 S hR3 => ?_) ?_
    · simp only [wipeD, qSeq, qAsg, qTup, qCons, qNil, qOp, qUn, qC, qCall, qVar, qLst, newL_f, qIfS, qTB, qNext, qRet, qDrop, qFor, qCB, qAug, qSl, qPart, qNoPart, gNameD, gSub_eq, dInt_i, dInt0_i, dAdd_i, dCmpI_i, List.set_cons_zero, List.set_cons_succ, List.getElem?_cons_zero, List.getElem?_cons_succ, List.append_nil, z_l0, z_l1, z_l2, z_l3, z_l4, z_l5, z_l6, z_l7, z_l8, z_l9, z_l19, z_l24, z_l25, true_and]; exact hR3
    have eL : (L.map D.str).map (fun x => D.tup [x, .bl true]) = L.map fun z => D.tup [.str z, .bl true] := by rw [List.map_map]; rfl
    simp only [eL, dDict, res_lst, pairs_strs]
    refine ⟨by rw [List.length_map]; omega, fun a13 ha13 => ?_⟩
    have nd : ∀ b, putAllD [] (L.map fun z => ((Sum.inr z : Key), D.bl true)) = b → b = b := fun _ _ => rfl
    simp only [put_same, del_put ha13, mUpdD, h49, zip_split]
    have l13 := putAllD_len (more := L.map fun z => ((Sum.inr z : Key), D.bl true)) (kvs := [])
    rw [List.length_map, List.length_nil] at l13
    refine ⟨by rw [List.length_map]; omega, ?_⟩
    have m13 : ∀ z : Str, (Sum.inr z : Key) ∈ (putAllD [] (L.map fun z => ((Sum.inr z : Key), D.bl true))).map (·.1) ↔ z ∈ L := fun z => by
      rw [putAllD_mem, List.map_map]; simp [List.mem_map]
    generalize putAllD [] (L.map fun z => ((Sum.inr z : Key), D.bl true)) = k2 at l13 m13
    have t10 := (put_ne n4.symm : put M9 a4 (.dK (putAllD kvs k2)) t = M9 t).trans t9
    simp only [qBM, eg0, mApp, t10, res_r t10, tyOk, qSeq, qAsg, qTup, qCons, qNil, qOp, qUn, qC, qCall, qVar, qLst, newL_f, qIfS, qTB, qNext, qRet, qDrop, qFor, qCB, qAug, qSl, qPart, qNoPart, gNameD, gSub_eq, dInt_i, dInt0_i, dAdd_i, dCmpI_i, List.set_cons_zero, List.set_cons_succ, List.getElem?_cons_zero, List.getElem?_cons_succ, List.append_nil, z_l0, z_l1, z_l2, z_l3, z_l4, z_l5, z_l6, z_l7, z_l8, z_l9, z_l19, z_l24, z_l25, true_and]
    refine ⟨by decide, by simp [rl]; omega, hR _ _ ⟨_, _, _, _, _, _, _, _, _, _, _, rfl, I.step hpi ha4 htM h9M n9t n94 ⟨putAllD kvs k2, ?_, fun z => ?_, ?_⟩ ?_ ?_ fun b u h1 h2 h3 => ?_⟩⟩
    · rw [put_ne n4, put_same]
    · rw [putAllD_mem, mem4, m13, hpk, List.mem_append]
    · have := putAllD_len (more := k2) (kvs := kvs); omega
    · rw [put_same, en]; rfl
    · rw [put_ne n9t, put_ne n94, hpk]; exact h9
    · rw [put_ne h2, put_ne h1]; exact k9 b u h3
end DL
namespace DL
open PySem L2 Tx20 Tx21 Pair
end DL
namespace DL
open PySem L2 Tx20 Tx21 Pair
def rowD (q : Nat → Addr) (x : (Eng × Option Str) × Nat) : D := .tup [.str x.1.1.1, optS x.1.2, .ref (q x.2)]
theorem row1 {q : Nat → Addr} {x : (Eng × Option Str) × Nat} {M : Mst} {Q : DK} : dIx (rowD q x) (.int 1) M Q = Q (optS x.1.2) M := ix_t rfl
/-- what is told, as the law looks at it -/
structure ToldC (M : Mst) (es : List Eng) (hs : List Hnd) (d : Int) (H : List (Option Nat)) (t : Addr) (q : Nat → Addr) : Prop where
  pre : CrewPre es hs d
  nd : (hs.map (·.1)).Nodup
  ho : HoldOk es hs d H
  rw_ : M t = some (.lst ((es.zip (H.map (drvName hs))).zipIdx.map (rowD q)))
  ls : ∀ (v : Nat) (o : List Str), (othL hs d (es.zip (H.map (drvName hs))) (H.filterMap (drvName hs)))[v]? = some o → M (q v) = some (.lst (o.map .str))
  ol : (othL hs d (es.zip (H.map (drvName hs))) (H.filterMap (drvName hs))).length = es.length
theorem othL_len {hs : List Hnd} {d : Int} : ∀ {r : List (Eng × Option Str)} {tk : List Str}, (othL hs d r tk).length = r.length
  | [], _ => rfl
  | (e, o) :: r, tk => by rw [othL, List.length_cons, List.length_cons, othL_len]
theorem all_true {α : Type} (l : List α) : (l.map fun _ => true).all id = true := by rw [List.all_eq_true]; intro x hx; obtain ⟨_, _, rfl⟩ := List.mem_map.mp hx; rfl
theorem valD_put' {kvs : List (Key × D)} {k k' : Key} {v : D} (h : k ∉ kvs.map (·.1)) : valD (putD kvs k v) k' = if k' = k then some v else valD kvs k' := by
  have e : putD kvs k v = kvs ++ [(k, v)] := by
    unfold putD
    rw [if_neg]
    simp only [List.any_eq_true, decide_eq_true_eq, not_exists, not_and]
    exact fun q hq e => h (e ▸ List.mem_map_of_mem hq)
  rw [e]
  unfold valD
  rw [List.find?_append]
  by_cases c : k' = k
  · subst c
    rw [if_pos rfl, List.find?_eq_none.mpr fun q hq => by
      have : q.1 ≠ k' := fun e => h (e ▸ List.mem_map_of_mem hq)
      simp [this]]
    simp
  · rw [if_neg c]
    have : ¬ k = k' := fun e => c e.symm
    simp [this]
theorem drv_nd {hs : List Hnd} (nd : (hs.map (·.1)).Nodup) : ∀ {H : List (Option Nat)}, (H.filterMap id).Nodup → (H.filterMap (drvName hs)).Nodup
  | [], _ => List.nodup_nil
  | none :: H, h => drv_nd nd (H := H) h
  | some i :: H, h => by
    have h' : (i :: H.filterMap id).Nodup := h
    rw [List.nodup_cons] at h'
    have ih := drv_nd nd h'.2
    cases e : drvName hs (some i) with
    | none => rw [List.filterMap_cons, e]; exact ih
    | some z =>
      rw [List.filterMap_cons, e]
      show (z :: H.filterMap (drvName hs)).Nodup
      refine List.nodup_cons.mpr ⟨fun hz => ?_, ih⟩
      obtain ⟨o, ho, eo⟩ := List.mem_filterMap.mp hz
      cases o with
      | none => cases eo
      | some j =>
        have hij : i = j := by
          have e1 : (hs.map (·.1))[i]? = some z := by rw [List.getElem?_map]; exact e
          have e2 : (hs.map (·.1))[j]? = some z := by rw [List.getElem?_map]; exact eo
          obtain ⟨i1, i2⟩ := List.getElem?_eq_some_iff.mp e1
          obtain ⟨j1, j2⟩ := List.getElem?_eq_some_iff.mp e2
          rcases Nat.lt_trichotomy i j with c | c | c
          · exact absurd (i2.trans j2.symm) (List.pairwise_iff_getElem.mp nd i j i1 j1 c)
          · exact c
          · exact absurd (j2.trans i2.symm) (List.pairwise_iff_getElem.mp nd j i j1 i1 c)
        subst hij
        exact h'.1 (List.mem_filterMap.mpr ⟨_, ho, rfl⟩)
end DL
namespace DL
open PySem L2 Tx20 Tx21 Pair
theorem deq_kD : ∀ a b : Key, deq (kD a) (kD b) = decide (a = b)
  | .inl i, .inl j => by show deq (.int i) (.int j) = _; rw [deq_int]; exact decide_eq_decide.mpr ⟨fun h => by rw [h], fun h => Sum.inl.inj h⟩
  | .inr i, .inr j => by show deq (.str i) (.str j) = _; rw [deq_str]; exact decide_eq_decide.mpr ⟨fun h => by rw [h], fun h => Sum.inr.inj h⟩
  | .inl i, .inr j => by simp [kD, deq, pyd, PyData.eqv]
  | .inr i, .inl j => by simp [kD, deq, pyd, PyData.eqv]
theorem flat_kD : ∀ k : Key, flatD (kD k) = true
  | .inl _ => rfl
  | .inr _ => rfl
theorem in_keys {neg : Bool} {k : Key} {a : Addr} {tr : List Key} {M : Mst} {Q : DK} (h : M a = some (.lst (tr.map kD))) : dIn neg (kD k) (.ref a) M Q = Q (.bl (xor neg (decide (k ∈ tr)))) M := by
  have hd : dgetD M (.ref a) (kD k) = none := by simp only [dgetD, h]
  have hr : res M (.ref a) = .lst (tr.map kD) := by simp [res, h]
  have fl : (tr.map kD).all flatD = true := by rw [List.all_map, List.all_eq_true]; intro o _; exact flat_kD o
  have e : ((tr.map kD).any fun e => deq e (kD k)) = decide (k ∈ tr) := by
    rw [List.any_map]
    refine Bool.eq_iff_iff.mpr ?_
    rw [List.any_eq_true, decide_eq_true_iff]
    constructor
    · rintro ⟨o, ho, hz⟩
      rw [Function.comp, deq_kD] at hz
      rw [← of_decide_eq_true hz]; exact ho
    · intro hz
      exact ⟨k, hz, by rw [Function.comp, deq_kD]; simp⟩
  unfold dIn
  rw [hd, hr]
  simp only [fl, e, flat_kD, true_and]
def stQ (h t : Addr) (hd : Held Key) (tr : List Key) (M : Mst) : Mst := put (put M h (.dK (hdD hd))) t (.lst (tr.map kD))
section
variable {h t : Addr} {hd hd2 : Held Key} {tr tr2 : List Key} {M : Mst}
theorem sl_h (ne : h ≠ t) : stQ h t hd tr M h = some (.dK (hdD hd)) := by unfold stQ; rw [put_ne ne]; simp
theorem sl_t : stQ h t hd tr M t = some (.lst (tr.map kD)) := by unfold stQ; simp
theorem sl_puth (ne : h ≠ t) : put (stQ h t hd tr M) h (.dK (hdD hd2)) = stQ h t hd2 tr M := by
  unfold stQ; rw [put_comm (Ne.symm ne), put_put]
theorem sl_putt : put (stQ h t hd tr M) t (.lst (tr2.map kD)) = stQ h t hd tr2 M := by unfold stQ; simp
theorem sl_st (ne : h ≠ t) : stQ h t hd2 tr2 (stQ h t hd tr M) = stQ h t hd2 tr2 M := by
  show put (put (stQ h t hd tr M) h _) t _ = _
  rw [sl_puth ne, sl_putt]
theorem sl_id (h1 : M h = some (.dK (hdD hd))) (h2 : M t = some (.lst (tr.map kD))) : stQ h t hd tr M = M := by
  unfold stQ; rw [put_id h1, put_id h2]
end
def spGetsL (n : Nat) : DSp := fun ds M Q _ => ∃ (ws : List (List Key)) (h t : Addr) (hd : Held Key) (i : Nat) (tr : List Key), ds = [wsD ws, .ref h, .int i, .ref t] ∧ h ≠ t ∧ M h = some (.dK (hdD hd)) ∧ M t = some (.lst (tr.map kD)) ∧ i < ws.length ∧ Okk ws hd tr ∧
  ws.flatten.length < 90000 ∧ left hd tr < n ∧ Q (.bl (getsF ws n hd i tr).1) (stQ h t (getsF ws n hd i tr).2.1 (getsF ws n hd i tr).2.2 M)
def qLGets (sp__law_gets : DSp) : DTS :=
  (qSeq (qFor (qiAny (qOp dIx (qVar 0) (qVar 2))) (gNameD 4)
  (qIfS (qTB (qOp (dIn true) (qVar 4) (qVar 3)))
  (qSeq (qDrop (qBM "list" mApp (qVar 3) (qCons (qVar 4) qNil)))
  (qIfS (qOr (qTB (qOp (dIn true) (qVar 4) (qVar 1))) (qTB (qCall sp__law_gets [] (qCons (qVar 0) (qCons (qVar 1) (qCons (qOp dIx (qVar 1) (qVar 4)) (qCons (qVar 3) qNil)))))))
  (qSeq (qAsg (qVar 2) (gSubD (qVar 1) (qVar 4)))
  (qRet (qC (.bl true))))
  qNext))
  qNext))
  (qRet (qC (.bl false))))
theorem getsl_loop {n : Nat} {ws : List (List Key)} {h t : Addr} {i : Nat} {M : Mst} {DW : DWt} {DE : DEnds} (ne : h ≠ t) (hi : i < ws.length) (hl : ws.flatten.length < 90000) :
    ∀ (ks : List Key) (hd : Held Key) (tr : List Key) (x : Option D), (∀ k ∈ ks, k ∈ ws.flatten) → Okk ws hd tr → left hd tr < n + 1 →
      ((goF (getsF ws n) i ks hd tr).1 = true → DE.rt (.bl true) (stQ h t (goF (getsF ws n) i ks hd tr).2.1 (goF (getsF ws n) i ks hd tr).2.2 M)) →
      ((goF (getsF ws n) i ks hd tr).1 = false → ∀ x, DE.nx [some (wsD ws), some (.ref h), some (.int i), some (.ref t), x] (stQ h t (goF (getsF ws n) i ks hd tr).2.1 (goF (getsF ws n) i ks hd tr).2.2 M)) →
      loopL always (gNameD 4) (qIfS (qTB (qOp (dIn true) (qVar 4) (qVar 3)))
  (qSeq (qDrop (qBM "list" mApp (qVar 3) (qCons (qVar 4) qNil)))
  (qIfS (qOr (qTB (qOp (dIn true) (qVar 4) (qVar 1))) (qTB (qCall (spGetsL n) [] (qCons (qVar 0) (qCons (qVar 1) (qCons (qOp dIx (qVar 1) (qVar 4)) (qCons (qVar 3) qNil)))))))
  (qSeq (qAsg (qVar 2) (gSubD (qVar 1) (qVar 4)))
  (qRet (qC (.bl true))))
  qNext))
  qNext) DW DE (ks.map kD) [some (wsD ws), some (.ref h), some (.int i), some (.ref t), x] (stQ h t hd tr M)
  | [], hd, tr, x, _, ok, hm, h1, h2 => ⟨trivial, h2 rfl x⟩
  | k :: ks, hd, tr, x, hs, ok, hm, h1, h2 => by
    refine ⟨trivial, ?_⟩
    have hk := hs k (List.mem_cons_self ..)
    have ih := getsl_loop (n := n) (M := M) (DW := DW) (DE := DE) ne hi hl ks
    have hs2 : ∀ x ∈ ks, x ∈ ws.flatten := fun x hx => hs x (List.mem_cons_of_mem _ hx)
    unfold goF at h1 h2
    simp only [gNameD, List.set_cons_zero, List.set_cons_succ, qIfS, qTB, qOp, qVar, List.getElem?_cons_zero, List.getElem?_cons_succ]
    rw [in_keys sl_t]
    by_cases z : k ∈ tr
    · rw [if_pos z] at h1 h2
      simp only [z, decide_true, Bool.xor_true, Bool.not_true, Bool.false_eq_true, if_false]
      exact ih hd tr _ hs2 ok hm h1 h2
    · rw [if_neg z] at h1 h2
      simp only [z, decide_false, Bool.xor_false, if_true]
      have ok2 := ok.add z hk
      simp only [qSeq, qDrop, qBM, qCons, qNil, qVar, List.getElem?_cons_zero, List.getElem?_cons_succ]
      refine ⟨by rw [res_r sl_t]; rfl, ?_⟩
      simp only [mApp, sl_t]
      rw [show (tr.map kD ++ [kD k]) = (tr ++ [k]).map kD by simp, sl_putt]
      refine ⟨by have := (len_le ok hl).2; simp [trD] at this ⊢; exact this, ?_⟩
      simp only [qIfS, qOr, qTB, qOp, qVar, List.getElem?_cons_zero, List.getElem?_cons_succ]
      rw [in_d (sl_h ne) (keyD_kD k), val_hd]
      -- held[holder] = wish; return True
      have fin : ∀ (DE2 : DEnds) (hd2 : Held Key) (tr2 : List Key), DE2.rt = DE.rt → Okk ws hd2 tr2 → DE.rt (.bl true) (stQ h t (putH hd2 k i) tr2 M) →
          (qSeq (qAsg (qVar 2) (gSubD (qVar 1) (qVar 4))) (qRet (qC (.bl true)))) DW DE2 [some (wsD ws), some (.ref h), some (.int i), some (.ref t), some (kD k)] (stQ h t hd2 tr2 M) := fun DE2 hd2 tr2 er ok2 hf => by
        simp only [qSeq, qAsg, qVar, gSub_eq, qRet, qC, List.getElem?_cons_zero, List.getElem?_cons_succ]
        rw [set_d (sl_h ne) (keyD_kD k), put_hd ok2.nd, sl_puth ne]
        exact ⟨(len_le ok2 hl).1, by rw [er]; exact hf⟩
      cases el : look hd k with
      | none =>
        simp only [el] at h1
        exact fin _ hd _ rfl ok2 (h1 trivial)
      | some j =>
        have hj := ok.val _ _ (look_some el)
        simp only [Option.map_some, Option.isSome_some, Bool.xor_true, Bool.not_true, Bool.false_eq_true, if_false, qCall, qCons, qNil, qVar, qOp, List.getElem?_cons_zero, List.getElem?_cons_succ, List.append_nil]
        rw [ix_d (sl_h ne) (keyD_kD k) (by rw [val_hd, el]; rfl)]
        have hm2 : left hd (tr ++ [k]) < n := by have := left_less el z; omega
        refine ⟨ws, h, t, hd, j, tr ++ [k], rfl, ne, sl_h ne, sl_t, hj, ok2, hl, hm2, ?_⟩
        rw [sl_st ne]
        have ok3 := gets_okk ws n hd j (tr ++ [k]) ok2 hj
        have out := gets_out ws n hd j (tr ++ [k]) ok.nd hm2
        simp only [el] at h1 h2
        rcases hr : getsF ws n hd j (tr ++ [k]) with ⟨b, hd2, tr2⟩
        rw [hr] at ok3 out
        simp only [hr] at h1 h2
        cases b with
        | true => exact fin _ hd2 tr2 rfl ok3 (h1 rfl)
        | false =>
          obtain ⟨_, F⟩ | ⟨e, _⟩ := out
          · have e := F.he
            simp only at e
            subst e
            exact ih hd2 tr2 _ hs2 ok3 (Nat.lt_of_le_of_lt (left_mono F.sub) (by omega)) h1 h2
          · cases e
theorem getsl_ok (n : Nat) (ds : List D) (M : Mst) (Q : DK) (Ed : DX → Mst → Prop) (h : upSp (spGetsL (n + 1)) ds M Q Ed) : qLGets (spGetsL n) (fun x _ M => Ed x M) (retE Q) (startD ["wishes", "held", "wish", "tried", "holder"] ds) M := by
  obtain ⟨Q0, E0, ⟨ws, h, t, hd, i, tr, rfl, ne, mh, mt, hi, ok, hl, hm, k⟩, kq, _⟩ := h
  replace k := kq _ _ _ (Sub.refl _) k
  show qSeq _ _ _ _ [some (wsD ws), some (.ref h), some (.int i), some (.ref t), none] M
  simp only [qSeq, qFor, qiAny, qOp, qVar, List.getElem?_cons_zero, List.getElem?_cons_succ]
  have e : ws_ ws i = ws[i] := by unfold ws_; rw [List.getElem?_eq_getElem hi]; rfl
  rw [wsD, ix_l (d := Pair.wD ws[i]) (by rw [atI_n, List.getElem?_map, List.getElem?_eq_getElem hi]; rfl)]
  simp only [Pair.wD]
  have hM : M = stQ h t hd tr M := (sl_id mh mt).symm
  have lp := getsl_loop (n := n) (M := M) (DW := fun x _ M => Ed x M) (DE := { nx := qRet (qC (.bl false)) (fun x _ M => Ed x M) (retE Q), rt := Q }) ne hi hl (ws[i]) hd tr none (fun k hk => ws_sub (by rw [e]; exact hk)) ok hm
  rw [← hM] at lp
  have k' : Q (.bl (goF (getsF ws n) i ws[i] hd tr).1) (stQ h t (goF (getsF ws n) i ws[i] hd tr).2.1 (goF (getsF ws n) i ws[i] hd tr).2.2 M) := by
    rw [← e]; exact k
  exact lp (fun z => by rw [z] at k'; exact k') (fun z x => by rw [z] at k'; exact k')
end DL
namespace DL
open PySem L2 Tx20 Tx21 Pair
def qLMost17 (sp__law_drives : DSp) (sp__law_gets : DSp) : DTS :=
  (qSeq (qAsg (qLc false (qiAny (qVar 0)) (gNameD 6) qYes (qLc false (qiEnum0 (qCons (qVar 1) qNil)) (gTupD 2 (gConsD (gNameD 7) (gConsD (gNameD 8) gNilD))) (qTB (qCall sp__law_drives [] (qCons (qVar 6) (qCons (qVar 8) (qCons (qVar 2) qNil))))) (qVar 7) [7, 8]) [6]) (gNameD 3))
  (qSeq (qAsg qDNew (gNameD 4))
  (qSeq (qFor (qiRng1 (qCons (qCB dLen (qCons (qVar 3) qNil)) qNil)) (gNameD 5)
  (qDrop (qCall sp__law_gets [] (qCons (qVar 3) (qCons (qVar 4) (qCons (qVar 5) (qCons (qLst true qNil) qNil)))))))
  (qRet (qCB dLen (qCons (qVar 4) qNil))))))
def fitD (e : Eng) (hs : List Hnd) (d : Int) : D → Option D
  | .tup [.int i, _] => if fitAt e hs d i.toNat = true then some (.int i) else none
  | _ => none
theorem fit_enum {e : Eng} {hs : List Hnd} {d : Int} : (enumDI 0 (hs.map hnD)).filterMap (fitD e hs d) = natsD (drvTo e hs d hs.length) := by
  have e1 : enumDI 0 (hs.map hnD) = (List.range hs.length).map fun i : Nat => D.tup [.int (i : Int), ((hs.map hnD)[i]?).getD .non] := by
    apply List.ext_getElem?
    intro i
    rw [enumDI_get, List.getElem?_map, List.getElem?_map]
    by_cases h : i < hs.length
    · rw [List.getElem?_range h, List.getElem?_eq_getElem h]
      show some _ = some _
      simp [h]
    · rw [List.getElem?_eq_none_iff.mpr (by omega), List.getElem?_eq_none_iff.mpr (by simp; omega)]; rfl
  rw [e1, List.filterMap_map]
  unfold natsD drvTo
  generalize List.range hs.length = L
  induction L with
  | nil => rfl
  | cons i L ih =>
    rw [List.filterMap_cons, ih, List.filter_cons]
    have e2 : (fitD e hs d ∘ fun i : Nat => D.tup [.int (i : Int), ((hs.map hnD)[i]?).getD .non]) i = if fitAt e hs d i = true then some (D.int (i : Int)) else none := rfl
    rw [e2]
    cases fitAt e hs d i <;> simp
def spLMost17 : DSp := fun ds M Q _ => ∃ (es : List Eng) (hs : List Hnd) (d : Int), ds = [.tup (es.map egD), .tup (hs.map hnD), .int d] ∧ CrewPre es hs d ∧ ∀ M', Sub M M' → Q (.int (((heldOf (wsK es hs d)).length : Nat) : Int)) M'
theorem len_dK {a : Addr} {kvs : List (Key × D)} {M : Mst} {Q : DK} (h : M a = some (.dK kvs)) : dLen [.ref a] M Q = Q (.int ((kvs.length : Nat) : Int)) M := by
  simp [dLen, res, h]
theorem lmost17_ok (ds : List D) (M : Mst) (Q : DK) (Ed : DX → Mst → Prop) (h : upSp spLMost17 ds M Q Ed) : qLMost17 spLDr (spGetsL 64) (fun x _ M => Ed x M) (retE Q) (startD ["_law_cars", "_law_folk", "_law_date", "_law_wants", "_law_held", "_law_wish", "_law_engine", "_law_k", "_law_hand"] ds) M := by
  obtain ⟨Q0, E0, ⟨es, hs, d, rfl, ⟨le, hq, d0, d1, hs9⟩, k0⟩, kq, _⟩ := h
  have k : ∀ M', Sub M M' → Q (.int (((heldOf (wsK es hs d)).length : Nat) : Int)) M' := fun M' S => kq _ _ _ (Sub.refl _) (k0 M' S)
  clear kq k0
  have lh := hq.le
  show qLMost17 _ _ _ _ [some (.tup (es.map egD)), some (.tup (hs.map hnD)), some (.int d), none, none, none, none, none, none] M
  simp only [qLMost17, qLc, qiAny, qSeq, qAsg, qTup, qCons, qNil, qOp, qUn, qC, qCall, qVar, qLst, newL_f, qIfS, qTB, qNext, qRet, qDrop, qFor, qCB, qAug, qSl, qPart, qNoPart, gNameD, gSub_eq, dInt_i, dInt0_i, dAdd_i, dCmpI_i, List.set_cons_zero, List.set_cons_succ, List.getElem?_cons_zero, List.getElem?_cons_succ, List.append_nil, z_l0, z_l1, z_l2, z_l3, z_l4, z_l5, z_l6, z_l7, z_l8, z_l9, z_l19, z_l24, z_l25, true_and]
  intro a1 ha1
  refine lcN ha1 (fun _ => trivial) (by rw [List.length_map]; omega) (fun x => match x with | .tup [.str a, .str b, .str c, .int n] => .lst (natsD (drvTo (a, b, c, n) hs d hs.length)) | _ => .non) (fun x hx M' R S hR => ?_) ?_
  · obtain ⟨e, he, rfl⟩ := List.mem_map.mp hx
    simp only [wipeD, qLc, qiEnum0, seqAt, qSeq, qAsg, qTup, qCons, qNil, qOp, qUn, qC, qCall, qVar, qLst, newL_f, qIfS, qTB, qNext, qRet, qDrop, qFor, qCB, qAug, qSl, qPart, qNoPart, gNameD, gSub_eq, dInt_i, dInt0_i, dAdd_i, dCmpI_i, List.set_cons_zero, List.set_cons_succ, List.getElem?_cons_zero, List.getElem?_cons_succ, List.append_nil, z_l0, z_l1, z_l2, z_l3, z_l4, z_l5, z_l6, z_l7, z_l8, z_l9, z_l19, z_l24, z_l25, true_and]
    intro a2 ha2
    refine compL_map ha2 (fitD e hs d) (fun _ => trivial) (by simp; omega) (fun y hy acc R2 hR2 => ?_) ?_
    · obtain ⟨i, hi⟩ := List.mem_iff_getElem?.mp hy
      obtain ⟨z, hz, rfl⟩ := enum_tup hi
      rw [List.getElem?_map] at hz
      obtain ⟨h, hh, rfl⟩ := Option.map_eq_some_iff.mp hz
      obtain ⟨s0, s1, sk⟩ := hq.ok h (List.mem_of_getElem? hh)
      have ef : fitD e hs d (.tup [.int (i : Int), hnD h]) = if fitsB e h d = true then some (.int (i : Int)) else none := by
        show (if fitAt e hs d (i : Int).toNat = true then _ else _) = _
        rw [show (i : Int).toNat = i from rfl, show fitAt e hs d i = fitsB e h d by unfold fitAt; rw [hh]]
      rw [ef] at hR2
      simp only [gTupD, gConsD, gNilD, wipeD, List.foldl, qSeq, qAsg, qTup, qCons, qNil, qOp, qUn, qC, qCall, qVar, qLst, newL_f, qIfS, qTB, qNext, qRet, qDrop, qFor, qCB, qAug, qSl, qPart, qNoPart, gNameD, gSub_eq, dInt_i, dInt0_i, dAdd_i, dCmpI_i, List.set_cons_zero, List.set_cons_succ, List.getElem?_cons_zero, List.getElem?_cons_succ, List.append_nil, z_l0, z_l1, z_l2, z_l3, z_l4, z_l5, z_l6, z_l7, z_l8, z_l9, z_l19, z_l24, z_l25, true_and]
      refine ⟨rfl, rfl, e, h, d, rfl, d0, d1, s0, s1, by omega, ?_⟩
      cases hc : fitsB e h d with
      | true => rw [hc] at hR2; simp only [if_true] at hR2 ⊢; exact hR2
      | false => rw [hc] at hR2; simp only [Bool.false_eq_true, if_false] at hR2 ⊢; exact hR2
    · simp only [Bool.false_eq_true, if_false, fit_enum]
      exact hR
  have ew : (D.lst ((es.map egD).map (fun x => match x with | .tup [.str a, .str b, .str c, .int n] => .lst (natsD (drvTo (a, b, c, n) hs d hs.length)) | _ => .non))) = wsD (wsK es hs d) := by
    unfold wsD wsK
    rw [List.map_map, List.map_map]
    congr 1
    refine List.map_congr_left fun e _ => ?_
    show D.lst (natsD (drvTo e hs d hs.length)) = Pair.wD _
    unfold Pair.wD natsD
    rw [List.map_map]; rfl
  rw [ew]
  have P := wsK_pre (d := d) le lh
  have lw : (wsK es hs d).length ≤ 24 := by unfold wsK; rw [List.length_map]; exact le
  generalize wsK es hs d = ws at P lw k
  have few := P.few
  have hfl : ws.flatten.length < 90000 := by have := flat_le P.each; omega
  simp only [qDNew, qSeq, qAsg, qTup, qCons, qNil, qOp, qUn, qC, qCall, qVar, qLst, newL_f, qIfS, qTB, qNext, qRet, qDrop, qFor, qCB, qAug, qSl, qPart, qNoPart, gNameD, gSub_eq, dInt_i, dInt0_i, dAdd_i, dCmpI_i, List.set_cons_zero, List.set_cons_succ, List.getElem?_cons_zero, List.getElem?_cons_succ, List.append_nil, z_l0, z_l1, z_l2, z_l3, z_l4, z_l5, z_l6, z_l7, z_l8, z_l9, z_l19, z_l24, z_l25, true_and]
  intro h hh
  simp only [qiRng1, qSeq, qAsg, qTup, qCons, qNil, qOp, qUn, qC, qCall, qVar, qLst, newL_f, qIfS, qTB, qNext, qRet, qDrop, qFor, qCB, qAug, qSl, qPart, qNoPart, gNameD, gSub_eq, dInt_i, dInt0_i, dAdd_i, dCmpI_i, List.set_cons_zero, List.set_cons_succ, List.getElem?_cons_zero, List.getElem?_cons_succ, List.append_nil, z_l0, z_l1, z_l2, z_l3, z_l4, z_l5, z_l6, z_l7, z_l8, z_l9, z_l19, z_l24, z_l25, true_and]
  rw [wsD, len_l, ← wsD]
  simp only [List.length_map]
  refine ⟨by omega, by omega, ?_⟩
  refine loopL_inv (fun i p M' => ∃ x5, p = [some (.tup (es.map egD)), some (.tup (hs.map hnD)), some (.int d), some (wsD ws), some (.ref h), x5, none, none, none] ∧ M' h = some (.dK (hdD (hdOf ws i))) ∧ Sub M M') (n := ws.length) (by simp) ?_ ?_ ⟨none, rfl, by simp [hdOf, heldF, hdD], (Sub.refl M).put hh⟩
  · rintro i x p M' R hd ⟨x5, rfl, mh, hsub⟩ hR
    obtain ⟨hi, rfl⟩ := range_at hd
    have hi : i < ws.length := by omega
    refine ⟨trivial, ?_⟩
    simp only [newL_t, qSeq, qAsg, qTup, qCons, qNil, qOp, qUn, qC, qCall, qVar, qLst, newL_f, qIfS, qTB, qNext, qRet, qDrop, qFor, qCB, qAug, qSl, qPart, qNoPart, gNameD, gSub_eq, dInt_i, dInt0_i, dAdd_i, dCmpI_i, List.set_cons_zero, List.set_cons_succ, List.getElem?_cons_zero, List.getElem?_cons_succ, List.append_nil, z_l0, z_l1, z_l2, z_l3, z_l4, z_l5, z_l6, z_l7, z_l8, z_l9, z_l19, z_l24, z_l25, true_and]
    intro t ht
    have ne : h ≠ t := ne_of_some mh ht
    have I := hdOf_inv ws i (by omega)
    have ok := inv_okk I (by omega)
    have mh2 : put M' t (.lst []) h = some (.dK (hdD (hdOf ws i))) := by rw [put_ne ne]; exact mh
    have ll : left (hdOf ws i) [] < 64 := Nat.lt_of_le_of_lt (Nat.le_trans List.countP_le_length I.len) (by omega)
    refine ⟨ws, h, t, hdOf ws i, i, [], rfl, ne, mh2, by simp, hi, ok, hfl, ll, ?_⟩
    have mt : M t = none := by
      cases e : M t with
      | none => rfl
      | some o => rw [hsub _ _ e] at ht; cases ht
    refine hR _ _ ⟨_, rfl, ?_, ?_⟩
    · rw [hdOf_succ]; exact sl_h ne
    · exact (((hsub.put mt).put hh).put mt)
  · rintro p M' ⟨x5, rfl, mh, hsub⟩
    refine ⟨trivial, ?_⟩
    simp only [qSeq, qAsg, qTup, qCons, qNil, qOp, qUn, qC, qCall, qVar, qLst, newL_f, qIfS, qTB, qNext, qRet, qDrop, qFor, qCB, qAug, qSl, qPart, qNoPart, gNameD, gSub_eq, dInt_i, dInt0_i, dAdd_i, dCmpI_i, List.set_cons_zero, List.set_cons_succ, List.getElem?_cons_zero, List.getElem?_cons_succ, List.append_nil, z_l0, z_l1, z_l2, z_l3, z_l4, z_l5, z_l6, z_l7, z_l8, z_l9, z_l19, z_l24, z_l25, true_and, len_dK mh]
    have e1 : (hdD (hdOf ws ws.length)).length = (heldOf ws).length := by unfold hdD; rw [List.length_map]; rfl
    rw [e1]
    exact k _ hsub
end DL
namespace DL
open PySem L2 Tx20 Tx21 Pair
theorem srtP_perm (v : List Str) : (srtP v).Perm v := by
  unfold srtP
  split
  · next h => exact h.choose_spec.1
  · exact List.Perm.refl _
theorem pick_sub {hs : List Hnd} {d : Int} {e : Eng} {tk : List Str} {o : Option Str} {z : Str} (h : z ∈ pick hs d e tk o) : z ∈ freeN hs e d ∧ z ∉ tk := by
  cases o with
  | none => cases h
  | some x =>
    have h1 := (srtP_perm _).mem_iff.mp (List.mem_of_mem_take h)
    obtain ⟨h2, h3⟩ := List.mem_filter.mp h1
    exact ⟨h2, of_decide_eq_true h3⟩
theorem freeN_nd {hs : List Hnd} (nd : (hs.map (·.1)).Nodup) (e : Eng) (d : Int) : (freeN hs e d).Nodup := nd.sublist (List.Sublist.map _ List.filter_sublist)
theorem pick_nd {hs : List Hnd} (nd : (hs.map (·.1)).Nodup) {d : Int} {e : Eng} {tk : List Str} {o : Option Str} : (pick hs d e tk o).Nodup := by
  cases o with
  | none => exact List.nodup_nil
  | some x => exact (((srtP_perm _).nodup_iff).mpr ((freeN_nd nd e d).filter _)).sublist (List.take_sublist ..)
theorem pick_len {hs : List Hnd} {d : Int} {e : Eng} {tk : List Str} {o : Option Str} : (pick hs d e tk o).length ≤ (e.2.2.2 - 1).toNat := by
  cases o with
  | none => exact Nat.zero_le _
  | some x => exact List.length_take_le ..
theorem pick_all {hs : List Hnd} {d : Int} {e : Eng} {tk : List Str} {x : Str} (h : (pick hs d e tk (some x)).length < (e.2.2.2 - 1).toNat) {z : Str} (hz : z ∈ freeN hs e d) : z ∈ tk ∨ z ∈ pick hs d e tk (some x) := by
  by_cases c : z ∈ tk
  · exact .inl c
  · right
    show z ∈ (srtP _).take _
    have h' : ((srtP ((freeN hs e d).filter fun z => decide (z ∉ tk))).take (e.2.2.2 - 1).toNat).length < (e.2.2.2 - 1).toNat := h
    rw [List.length_take] at h'
    rw [List.take_of_length_le (by omega)]
    exact (srtP_perm _).mem_iff.mpr (List.mem_filter.mpr ⟨hz, decide_eq_true c⟩)
theorem oth_nd {hs : List Hnd} (nd : (hs.map (·.1)).Nodup) {d : Int} : ∀ {r : List (Eng × Option Str)} {tk : List Str}, (othL hs d r tk).flatten.Nodup ∧ ∀ z ∈ (othL hs d r tk).flatten, z ∉ tk
  | [], _ => ⟨List.nodup_nil, fun z h => by cases h⟩
  | (e, o) :: r, tk => by
    obtain ⟨h1, h2⟩ := oth_nd nd (d := d) (r := r) (tk := tk ++ pick hs d e tk o)
    rw [othL, List.flatten_cons]
    refine ⟨List.nodup_append.mpr ⟨pick_nd nd, h1, fun x hx y hy c => ?_⟩, fun z hz => ?_⟩
    · subst c; exact h2 x hy (List.mem_append_right _ hx)
    · rcases List.mem_append.mp hz with hz | hz
      · exact (pick_sub hz).2
      · exact fun c => h2 z hz (List.mem_append_left _ c)
theorem oth_get {hs : List Hnd} {d : Int} : ∀ {r : List (Eng × Option Str)} {tk : List Str} {v : Nat} {l : List Str}, (othL hs d r tk)[v]? = some l →
    ∃ e o tk', r[v]? = some (e, o) ∧ l = pick hs d e tk' o ∧ ∀ z ∈ tk', z ∈ tk ∨ z ∈ (othL hs d r tk).flatten
  | [], _, _, _, h => by simp [othL] at h
  | (e, o) :: r, tk, 0, l, h => by
    simp only [othL, List.getElem?_cons_zero, Option.some.injEq] at h
    exact ⟨e, o, tk, rfl, h.symm, fun z hz => .inl hz⟩
  | (e, o) :: r, tk, v + 1, l, h => by
    simp only [othL, List.getElem?_cons_succ] at h
    obtain ⟨e', o', tk', h1, h2, h3⟩ := oth_get h
    refine ⟨e', o', tk', by simpa using h1, h2, fun z hz => ?_⟩
    rw [othL, List.flatten_cons]
    rcases h3 z hz with h | h
    · rcases List.mem_append.mp h with h | h
      · exact .inl h
      · exact .inr (List.mem_append_left _ h)
    · exact .inr (List.mem_append_right _ h)
/-- who is on each engine -/
def onL (DS : List (Option Str)) (O : List (List Str)) : List (List Str) := List.zipWith (fun o l => o.toList ++ l) DS O
theorem onL_perm : ∀ {DS : List (Option Str)} {O : List (List Str)}, DS.length = O.length → (onL DS O).flatten.Perm (DS.filterMap id ++ O.flatten)
  | [], [], _ => List.Perm.refl _
  | [], _ :: _, h => by cases h
  | _ :: _, [], h => by cases h
  | o :: DS, l :: O, h => by
    have ih := onL_perm (DS := DS) (O := O) (by simpa using h)
    have e1 : (onL (o :: DS) (l :: O)).flatten = (o.toList ++ l) ++ (onL DS O).flatten := rfl
    have e2 : (o :: DS).filterMap id = o.toList ++ DS.filterMap id := by cases o <;> rfl
    rw [e1, e2, List.flatten_cons, List.append_assoc, List.append_assoc]
    refine List.Perm.append_left _ ?_
    refine (List.Perm.append_left l ih).trans ?_
    rw [← List.append_assoc, ← List.append_assoc]
    exact List.Perm.append_right _ List.perm_append_comm
theorem onL_get {DS : List (Option Str)} {O : List (List Str)} {v : Nat} {l : List Str} (h : (onL DS O)[v]? = some l) : ∃ o p, DS[v]? = some o ∧ O[v]? = some p ∧ l = o.toList ++ p := by
  unfold onL at h
  rw [List.getElem?_zipWith] at h
  cases h1 : DS[v]? with
  | none => rw [h1] at h; cases h
  | some o =>
    cases h2 : O[v]? with
    | none => rw [h1, h2] at h; cases h
    | some p =>
      rw [h1, h2] at h
      exact ⟨o, p, rfl, rfl, (Option.some.inj h).symm⟩
/-- what the law asks of those on the engines -/
structure OnOk (es : List Eng) (hs : List Hnd) (d : Int) (ON : List (List Str)) : Prop where
  len : ON.length = es.length
  se : ∀ (v : Nat) (e : Eng) (l : List Str), es[v]? = some e → ON[v]? = some l → (l.length : Int) ≤ e.2.2.2 ∧ ∀ z ∈ l, ∃ h ∈ hs, h.1 = z ∧ h.2.1 = e.2.2.1 ∧ onW h d = true
  nd : ON.flatten.Nodup
  all : ∀ (v : Nat) (e : Eng) (l : List Str), es[v]? = some e → ON[v]? = some l → 0 < l.length → (l.length : Int) < e.2.2.2 → ∀ z ∈ freeN hs e d, z ∈ ON.flatten
theorem freeN_mem {hs : List Hnd} {e : Eng} {d : Int} {z : Str} (h : z ∈ freeN hs e d) : ∃ x ∈ hs, x.1 = z ∧ x.2.1 = e.2.2.1 ∧ onW x d = true := by
  obtain ⟨x, hx, rfl⟩ := List.mem_map.mp h
  obtain ⟨h1, h2⟩ := List.mem_filter.mp hx
  rw [Bool.and_eq_true] at h2
  exact ⟨x, h1, rfl, of_decide_eq_true h2.1, h2.2⟩
theorem on_ok {es : List Eng} {hs : List Hnd} {d : Int} {H : List (Option Nat)} (nd : (hs.map (·.1)).Nodup) (HO : HoldOk es hs d H) (hs9 : ∀ e ∈ es, 1 ≤ e.2.2.2 ∧ e.2.2.2 ≤ 9) :
    OnOk es hs d (onL (H.map (drvName hs)) (othL hs d (es.zip (H.map (drvName hs))) (H.filterMap (drvName hs)))) := by
  have lD : (H.map (drvName hs)).length = es.length := by rw [List.length_map, HO.len]
  have lz : (es.zip (H.map (drvName hs))).length = es.length := by simp [HO.len]
  have ol : (othL hs d (es.zip (H.map (drvName hs))) (H.filterMap (drvName hs))).length = es.length := by rw [othL_len, lz]
  have ef : (H.map (drvName hs)).filterMap id = H.filterMap (drvName hs) := by rw [List.filterMap_map]; rfl
  have pm := onL_perm (DS := H.map (drvName hs)) (O := othL hs d (es.zip (H.map (drvName hs))) (H.filterMap (drvName hs))) (by rw [lD, ol])
  rw [ef] at pm
  obtain ⟨o1, o2⟩ := oth_nd nd (d := d) (r := es.zip (H.map (drvName hs))) (tk := H.filterMap (drvName hs))
  have at_ : ∀ (v : Nat) (e : Eng) (l : List Str), es[v]? = some e → (onL (H.map (drvName hs)) (othL hs d (es.zip (H.map (drvName hs))) (H.filterMap (drvName hs))))[v]? = some l →
      ∃ o tk', (H.map (drvName hs))[v]? = some o ∧ l = o.toList ++ pick hs d e tk' o ∧ ∀ z ∈ tk', z ∈ (onL (H.map (drvName hs)) (othL hs d (es.zip (H.map (drvName hs))) (H.filterMap (drvName hs)))).flatten := by
    intro v e l he hl
    obtain ⟨o, p, h1, h2, rfl⟩ := onL_get hl
    obtain ⟨e', o', tk', h3, h4, h5⟩ := oth_get h2
    rw [List.getElem?_zip_eq_some, he, h1] at h3
    obtain ⟨h3, h6⟩ := h3
    cases h3; cases h6
    exact ⟨_, tk', h1, by rw [h4], fun z hz => pm.mem_iff.mpr (List.mem_append.mpr (h5 z hz))⟩
  refine ⟨by unfold onL; rw [List.length_zipWith, lD, ol, Nat.min_self], fun v e l he hl => ?_, ?_, fun v e l he hl h0 h1 z hz => ?_⟩
  · obtain ⟨o, tk', h1, rfl, _⟩ := at_ v e l he hl
    obtain ⟨s1, s9⟩ := hs9 e (List.mem_of_getElem? he)
    have pl := pick_len (hs := hs) (d := d) (e := e) (tk := tk') (o := o)
    refine ⟨?_, fun z hz => ?_⟩
    · rw [List.length_append]
      cases o with
      | none => simp; omega
      | some x => simp; omega
    · rcases List.mem_append.mp hz with hz | hz
      · cases o with
        | none => cases hz
        | some x =>
          have hx : z = x := by simpa using hz
          subst hx
          rw [List.getElem?_map] at h1
          obtain ⟨i, hi, ei⟩ := Option.map_eq_some_iff.mp h1
          cases i with
          | none => cases ei
          | some i =>
            obtain ⟨e', h, he', hh, hf⟩ := HO.fit v i hi
            rw [he] at he'; cases he'
            have en : h.1 = z := by
              unfold drvName at ei
              rw [Option.bind_some, hh] at ei
              exact Option.some.inj ei
            unfold fitsB at hf
            simp only [Bool.and_eq_true, decide_eq_true_eq] at hf
            exact ⟨h, List.mem_of_getElem? hh, en, hf.1, hf.2.1⟩
      · exact freeN_mem (pick_sub hz).1
  · rw [pm.nodup_iff]
    exact List.nodup_append.mpr ⟨drv_nd nd HO.nd, o1, fun x hx y hy c => o2 y hy (c ▸ hx)⟩
  · obtain ⟨o, tk', h2, rfl, h3⟩ := at_ v e l he hl
    cases o with
    | none => exact absurd h0 (by show ¬ 0 < ([] ++ [] : List Str).length; simp)
    | some x =>
      have h4 : (pick hs d e tk' (some x)).length < (e.2.2.2 - 1).toNat := by
        rw [List.length_append] at h1
        simp at h1; omega
      rcases pick_all h4 hz with h | h
      · exact h3 z h
      · exact List.mem_flatten.mpr ⟨_, List.mem_of_getElem? hl, List.mem_append_right _ h⟩
theorem somes_drv {es : List Eng} {hs : List Hnd} {d : Int} {H : List (Option Nat)} (HO : HoldOk es hs d H) : ((H.map (drvName hs)).filterMap id).length = (heldOf (wsK es hs d)).length := by
  rw [← HO.mx, List.filterMap_map]
  have hh : ∀ i, some i ∈ H → ∃ h, hs[i]? = some h := fun i hi => by
    obtain ⟨v, hv⟩ := List.mem_iff_getElem?.mp hi
    obtain ⟨_, h, _, h2, _⟩ := HO.fit v i hv
    exact ⟨h, h2⟩
  clear HO
  induction H with
  | nil => rfl
  | cons o H ih =>
    have ih := ih fun i hi => hh i (List.mem_cons_of_mem _ hi)
    cases o with
    | none => exact ih
    | some i =>
      obtain ⟨h, h1⟩ := hh i (List.mem_cons_self ..)
      have e : (id ∘ drvName hs) (some i) = some h.1 := by show drvName hs (some i) = _; unfold drvName; rw [Option.bind_some, h1]; rfl
      rw [List.filterMap_cons, e, List.filterMap_cons]
      show (_ :: _).length = (_ :: _).length
      rw [List.length_cons, List.length_cons, ih]
end DL
namespace DL
open PySem L2 Tx20 Tx21 Pair
def qLHolds17 (sp__law_most : DSp) (sp__law_watch : DSp) : DTS :=
  (qSeq (qAsg (qLc false (qiAny (qVar 3)) (gTupD 3 (gConsD (gNameD 11) (gConsD (gNameD 12) (gConsD (gNameD 13) gNilD)))) qYes (qOp (dAdd false) (qOp (dMul false) (qLst false (qCons (qVar 12) qNil)) (qCB dIntX (qCons (qOp (dIs true) (qVar 12) (qC .non)) qNil))) (qVar 13)) [11, 12, 13]) (gNameD 4))
  (qSeq (qAsg (qTup (qCons qDNew (qCons (qLst true qNil) qNil))) (gTupD 2 (gConsD (gNameD 5) (gConsD (gNameD 6) gNilD))))
  (qSeq (qFor (qiAny (qVar 1)) (gNameD 7)
  (qAsg (qVar 7) (gSubD (qVar 5) (qOp dIx (qVar 7) (qC (.int 0))))))
  (qSeq (qFor (qiZipM (qCons (qVar 0) (qCons (qVar 4) qNil))) (gTupD 2 (gConsD (gNameD 8) (gConsD (gNameD 9) gNilD)))
  (qSeq (qDrop (qBM "list" mExt (qVar 6) (qCons (qVar 9) qNil)))
  (qSeq (qIfS (qOr (qTB (qOp (dCmpI fun i j => decide (j < i)) (qCB dLen (qCons (qVar 9) qNil)) (qOp dIx (qVar 8) (qC (.int 3))))) (qNot (qTB (qCB dAll (qCons (qLc false (qiAny (qVar 9)) (gNameD 11) qYes (qOp (dEq false) (qOp dIx (qOp dIx (qVar 5) (qVar 11)) (qC (.int 1))) (qOp dIx (qVar 8) (qC (.int 2)))) [11]) qNil)))))
  (qRet (qC (.bl false)))
  qNext)
  (qIfS (qNot (qTB (qCB dAll (qCons (qLc false (qiAny (qVar 9)) (gNameD 11) qYes (qCall sp__law_watch [] (qCons (qOp dIx (qVar 5) (qVar 11)) (qCons (qVar 2) qNil))) [11]) qNil))))
  (qRet (qC (.bl false)))
  qNext))))
  (qSeq (qIfS (qTB (qOp (dEq true) (qLenSet (qVar 6)) (qCB dLen (qCons (qVar 6) qNil))))
  (qRet (qC (.bl false)))
  qNext)
  (qSeq (qFor (qiZipM (qCons (qVar 0) (qCons (qVar 4) qNil))) (gTupD 2 (gConsD (gNameD 8) (gConsD (gNameD 9) gNilD)))
  (qIfS (qTB (qChain (dCmpI fun i j => decide (i < j)) (dCmpI fun i j => decide (i < j)) (qC (.int 0)) (qCB dLen (qCons (qVar 9) qNil)) (qOp dIx (qVar 8) (qC (.int 3)))))
  (qSeq (qAsg (qLc false (qiAny (qVar 1)) (gNameD 7) (qAnd (qTB (qOp (dEq false) (qOp dIx (qVar 7) (qC (.int 1))) (qOp dIx (qVar 8) (qC (.int 2))))) (qTB (qCall sp__law_watch [] (qCons (qVar 7) (qCons (qVar 2) qNil))))) (qOp dIx (qVar 7) (qC (.int 0))) [7]) (gNameD 10))
  (qIfS (qNot (qTB (qCB dAll (qCons (qLc false (qiAny (qVar 10)) (gNameD 11) qYes (qOp (dIn false) (qVar 11) (qVar 6)) [11]) qNil))))
  (qRet (qC (.bl false)))
  qNext))
  qNext))
  (qRet (qOp (dEq false) (qCB dLen (qCons (qLc false (qiAny (qVar 3)) (gNameD 14) (qTB (qOp (dIs true) (qOp dIx (qVar 14) (qC (.int 1))) (qC .non))) (qC (.int 1)) [14]) qNil)) (qCall sp__law_most [] (qCons (qVar 0) (qCons (qVar 1) (qCons (qVar 2) qNil))))))))))))
theorem in_refK {neg : Bool} {z : Str} {a : Addr} {zs : List Str} {M : Mst} {Q : DK} (h : M a = some (.lst (zs.map .str))) : dIn neg (.str z) (.ref a) M Q = Q (.bl (xor neg (decide (z ∈ zs)))) M := by
  have hd : dgetD M (.ref a) (.str z) = none := by simp only [dgetD, h]
  have hr : res M (.ref a) = .lst (zs.map .str) := by simp [res, h]
  have e := @in_strs M Q neg z zs
  rw [← e]
  unfold dIn
  rw [hd, hr]
  simp only [dgetD, res_lst]
def optL : D → List D
  | .non => []
  | d => [d]
def onG (M : Mst) : D → D
  | .tup [_, o, .ref r] => .lst (optL o ++ (match M r with
    | some (.lst l) => l
    | _ => []))
  | _ => .non
theorem optL_S (o : Option Str) : optL (optS o) = o.toList.map .str := by cases o <;> rfl
/-- the place of a hand by the name -/
structure KnownAt (M : Mst) (a : Addr) (hs : List Hnd) : Prop where
  ex : ∃ kvs, M a = some (.dK kvs) ∧ ∀ h ∈ hs, valD kvs (.inr h.1) = some (hnD h)
theorem KnownAt.ix {M : Mst} {a : Addr} {hs : List Hnd} {h : Hnd} {Q : DK} (K : KnownAt M a hs) (hh : h ∈ hs) (k : Q (hnD h) M) : dIx (.ref a) (.str h.1) M Q := by
  obtain ⟨kvs, e, f⟩ := K.ex
  rw [ix_d (y := .str h.1) e rfl (f h hh)]
  exact k
theorem KnownAt.sub {M M' : Mst} {a : Addr} {hs : List Hnd} (K : KnownAt M a hs) (e : ∀ o, M a = some o → M' a = some o) : KnownAt M' a hs := by
  obtain ⟨kvs, h, f⟩ := K.ex
  exact ⟨kvs, e _ h, f⟩
/-- the law puts the hands into a dict, by name -/
theorem known_loop {hs : List Hnd} (nd : (hs.map (·.1)).Nodup) (lh : hs.length ≤ 60) {i5 i7 : Nat} {a5 : Addr} {DW : DWt} {DE : DEnds} {p : Rho} {M : Mst} (h57 : i5 ≠ i7) (hp5 : p[i5]? = some (some (.ref a5))) (hp7 : i7 < p.length) (ma : M a5 = some (.dK []))
    (k : ∀ x kvs, (∀ h ∈ hs, valD kvs (.inr h.1) = some (hnD h)) → DE.nx (p.set i7 x) (put M a5 (.dK kvs))) : loopL always (gNameD i7) (qAsg (qVar i7) (gSubD (qVar i5) (qOp dIx (qVar i7) (qC (.int 0))))) DW DE (hs.map hnD) p M := by
  have pid : p = p.set i7 p[i7] := by simp
  refine loopL_inv (fun i p' M' => ∃ (x : Option D) (kvs : List (Key × D)), p' = p.set i7 x ∧ M' = put M a5 (.dK kvs) ∧ kvs.map (·.1) = (hs.take i).map (fun h => (Sum.inr h.1 : Key)) ∧ ∀ j h, j < i → hs[j]? = some h → valD kvs (.inr h.1) = some (hnD h)) (n := hs.length) (by simp) (fun i x p' M' R hd' hI hR => ?_) (fun p' M' hI => ?_)
    ⟨p[i7], [], pid, (put_id ma).symm, rfl, fun j h hj => absurd hj (Nat.not_lt_zero _)⟩
  · obtain ⟨p6, kvs, rfl, rfl, ek, vk⟩ := hI
    rw [List.getElem?_map] at hd'
    obtain ⟨h, hh, rfl⟩ := Option.map_eq_some_iff.mp hd'
    have hi : i < hs.length := (List.getElem?_eq_some_iff.mp hh).1
    refine ⟨trivial, ?_⟩
    have nk : (Sum.inr h.1 : Key) ∉ kvs.map (·.1) := fun c => by
      rw [ek] at c
      obtain ⟨y, hy, ey⟩ := List.mem_map.mp c
      have ey := Sum.inr.inj ey
      obtain ⟨j, hj, rfl⟩ := List.getElem_of_mem hy
      rw [List.length_take] at hj
      rw [List.getElem_take] at ey
      have h2 := (List.getElem?_eq_some_iff.mp hh).2
      rw [← h2] at ey
      exact (List.pairwise_iff_getElem.mp nd j i (by rw [List.length_map]; omega) (by rw [List.length_map]; omega) (by omega)) (by simpa using ey)
    have lk : kvs.length ≤ 60 := by have := congrArg List.length ek; simp [List.length_take] at this; omega
    have g7 : ((p.set i7 p6).set i7 (some (hnD h)))[i7]? = some (some (hnD h)) := by rw [List.getElem?_set_self]; simpa using hp7
    have g5 : ((p.set i7 p6).set i7 (some (hnD h)))[i5]? = some (some (.ref a5)) := by rw [List.getElem?_set_ne h57.symm, List.getElem?_set_ne h57.symm]; exact hp5
    simp only [gNameD, qAsg, qVar, qOp, qC, gSub_eq, g7, g5, hd0]
    simp only [dSet, put_same, keyD, put_put]
    refine ⟨by omega, hR _ _ ⟨some (hnD h), _, by simp, rfl, ?_, fun j y hj hy => ?_⟩⟩
    · rw [List.take_add_one, hh, List.map_append, ← ek]
      have e : putD kvs (.inr h.1) (hnD h) = kvs ++ [(.inr h.1, hnD h)] := by
        unfold putD
        rw [if_neg]
        simp only [List.any_eq_true, decide_eq_true_eq, not_exists, not_and]
        exact fun q hq e => nk (e ▸ List.mem_map_of_mem hq)
      rw [e, List.map_append]; rfl
    · rw [valD_put' nk]
      by_cases c : j = i
      · subst c
        rw [hh] at hy; cases hy
        rw [if_pos rfl]
      · have hji : j < i := by omega
        have v1 := vk j y hji hy
        rw [if_neg]
        · exact v1
        · intro ce
          have : (Sum.inr y.1 : Key) ∈ kvs.map (·.1) := by
            rw [ek]; exact List.mem_map_of_mem (f := fun h : Hnd => (Sum.inr h.1 : Key)) (List.mem_iff_getElem?.mpr ⟨j, by rw [List.getElem?_take_of_lt hji]; exact hy⟩)
          rw [ce] at this
          exact nk this
  · obtain ⟨p6, kvs, rfl, rfl, ek, vk⟩ := hI
    refine ⟨trivial, k _ _ fun h hh => ?_⟩
    obtain ⟨j, hj⟩ := List.mem_iff_getElem?.mp hh
    exact vk j h (List.getElem?_eq_some_iff.mp hj).1 hj
theorem drv_list {o : Option Str} {M : Mst} {Q : DK} (k : Q (.lst (o.toList.map .str)) M) : dMul false (.lst [optS o]) (.int (if (!isNon (optS o)) = true then 1 else 0)) M Q := by
  cases o with
  | none =>
    simp only [optS, isNon, Bool.not_true, Bool.false_eq_true, if_false, dMul, res_lst]
    exact ⟨by decide, by decide, by simp, k⟩
  | some z =>
    simp only [optS, isNon, Bool.not_false, if_true, dMul, res_lst]
    exact ⟨by decide, by decide, by simp, k⟩
theorem add_lr {a b : List D} {r : Addr} {M : Mst} {Q : DK} (h : M r = some (.lst b)) (hl : a.length + b.length ≤ 100000) (k : Q (.lst (a ++ b)) M) : dAdd false (.lst a) (.ref r) M Q := by
  unfold dAdd
  simp only [res_lst, res_r h, newL_f]
  exact ⟨hl, k⟩
def sLs (l : List Str) : D := .lst (l.map .str)
theorem flat_le9 {α : Type} : ∀ {ws : List (List α)}, (∀ w ∈ ws, w.length ≤ 9) → ws.flatten.length ≤ 9 * ws.length
  | [], _ => Nat.le_refl _
  | w :: ws, h => by
    have h1 := h w (List.mem_cons_self ..)
    have h2 := flat_le9 fun x hx => h x (List.mem_cons_of_mem _ hx)
    rw [List.flatten_cons, List.length_append, List.length_cons]; omega
def frF (e : Eng) (d : Int) : D → Option D
  | .tup [.str a, .str b, .int n, _] => if (decide (b = e.2.2.1) && decide ((d + n) % 4 < 2)) = true then some (.str a) else none
  | _ => none
theorem frF_h {e : Eng} {d : Int} {h : Hnd} : frF e d (hnD h) = if (decide (h.2.1 = e.2.2.1) && onW h d) = true then some (.str h.1) else none := rfl
theorem frF_map {e : Eng} {d : Int} : ∀ hs : List Hnd, (hs.map hnD).filterMap (frF e d) = (freeN hs e d).map .str
  | [] => rfl
  | h :: hs => by
    have ih := frF_map (e := e) (d := d) hs
    unfold freeN at ih ⊢
    rw [List.map_cons, List.filterMap_cons, frF_h, ih, List.filter_cons]
    cases c : (decide (h.2.1 = e.2.2.1) && onW h d) <;> simp
def oneF : D → Option D
  | .tup [_, o, _] => if isNon o = true then none else some (.int 1)
  | _ => none
theorem oneF_row {q : Nat → Addr} {x : (Eng × Option Str) × Nat} : oneF (rowD q x) = if isNon (optS x.1.2) = true then none else some (.int 1) := rfl
theorem ones_len {q : Nat → Addr} : ∀ L : List ((Eng × Option Str) × Nat), ((L.map (rowD q)).filterMap oneF).length = ((L.map fun x => x.1.2).filterMap id).length
  | [] => rfl
  | x :: L => by
    have ih := ones_len (q := q) L
    rw [List.map_cons, List.filterMap_cons, oneF_row, List.map_cons, List.filterMap_cons]
    cases c : x.1.2 with
    | none => simp only [optS, isNon, if_true]; exact ih
    | some z => simp only [optS, isNon, Bool.false_eq_true, if_false]; show (_ :: _).length = (_ :: _).length; rw [List.length_cons, List.length_cons, ih]
theorem zip_snd2 {es : List Eng} {DS : List (Option Str)} (h : DS.length = es.length) : ((es.zip DS).zipIdx).map (fun x => x.1.2) = DS := by
  have e1 : ((es.zip DS).zipIdx).map (fun x => x.1.2) = (((es.zip DS).zipIdx).map Prod.fst).map Prod.snd := by rw [List.map_map]; rfl
  rw [e1, List.zipIdx_map_fst, List.map_snd_zip (by omega)]
def spHolds17 : DSp := fun ds M Q _ => ∃ (es : List Eng) (hs : List Hnd) (d : Int) (H : List (Option Nat)) (t : Addr) (q : Nat → Addr), ds = [.tup (es.map egD), .tup (hs.map hnD), .int d, .ref t] ∧ ToldC M es hs d H t q ∧ ∀ M', Sub M M' → Q (.bl true) M'
theorem lholds_ok (ds : List D) (M : Mst) (Q : DK) (Ed : DX → Mst → Prop) (h : upSp spHolds17 ds M Q Ed) : qLHolds17 spLMost17 spOnW (fun x _ M => Ed x M) (retE Q) (startD ["_law_cars", "_law_folk", "_law_date", "_law_told", "_law_on", "_law_known", "_law_seated", "_law_hand", "_law_engine", "_law_names_here", "_law_there", "_law_name", "_law_driver", "_law_some", "_law_one"] ds) M := by
  obtain ⟨Q0, E0, ⟨es, hs, d, H, t, q, rfl, C, k0⟩, kq, _⟩ := h
  have k : ∀ M', Sub M M' → Q (.bl true) M' := fun M' S => kq _ _ _ (Sub.refl _) (k0 M' S)
  clear kq k0
  obtain ⟨pre, nd, HO, mt, ls, ol⟩ := C
  have ON := on_ok nd HO pre.s
  have SD := somes_drv HO
  obtain ⟨le, hq, d0, d1, hs9⟩ := id pre
  have lD : (H.map (drvName hs)).length = es.length := by rw [List.length_map, HO.len]
  have lr : ((es.zip (H.map (drvName hs))).zipIdx.map (rowD q)).length = es.length := by rw [List.length_map, List.length_zipIdx, List.length_zip, lD]; omega
  have lh := hq.le
  have ob9 : ∀ o ∈ othL hs d (es.zip (H.map (drvName hs))) (H.filterMap (drvName hs)), o.length ≤ 9 := fun o ho => by
    obtain ⟨v, hv⟩ := List.mem_iff_getElem?.mp ho
    obtain ⟨e, o', tk', h1, rfl, _⟩ := oth_get hv
    have h2 := pick_len (hs := hs) (d := d) (e := e) (tk := tk') (o := o')
    have h3 := hs9 e (List.of_mem_zip (List.mem_of_getElem? h1)).1
    omega
  show qLHolds17 _ _ _ _ [some (.tup (es.map egD)), some (.tup (hs.map hnD)), some (.int d), some (.ref t), none, none, none, none, none, none, none, none, none, none, none] M
  simp only [qLHolds17, qOr, qNot, qAnd, qLc, qiAny, mt, qSeq, qAsg, qTup, qCons, qNil, qOp, qUn, qC, qCall, qVar, qLst, newL_f, qIfS, qTB, qNext, qRet, qDrop, qFor, qCB, qAug, qSl, qPart, qNoPart, gNameD, gSub_eq, dInt_i, dInt0_i, dAdd_i, dCmpI_i, List.set_cons_zero, List.set_cons_succ, List.getElem?_cons_zero, List.getElem?_cons_succ, List.append_nil, z_l0, z_l1, z_l2, z_l3, z_l4, z_l5, z_l6, z_l7, z_l8, z_l9, z_l19, z_l24, z_l25, true_and]
  intro a1 ha1
  refine compL_map ha1 (fun x => some (onG M x)) (fun acc => put_keep mt ha1) (by rw [lr]; omega) (fun x hx acc R hR => ?_) ?_
  · obtain ⟨y, hy, rfl⟩ := List.mem_map.mp hx
    have hy2 := List.snd_lt_of_mem_zipIdx hy
    rw [List.length_zip, lD, Nat.min_self] at hy2
    have hy2 : y.2 < es.length := by omega
    obtain ⟨o, ho⟩ : ∃ o, (othL hs d (es.zip (H.map (drvName hs))) (H.filterMap (drvName hs)))[y.2]? = some o := ⟨_, List.getElem?_eq_getElem (by rw [ol]; exact hy2)⟩
    have hm := ls _ _ ho
    have hm2 := put_keep (u := .lst acc) hm ha1
    have o9 := ob9 o (List.mem_of_getElem? ho)
    have ef : onG M (rowD q y) = .lst (optL (optS y.1.2) ++ o.map .str) := by simp only [onG, rowD, hm]
    rw [ef] at hR
    simp only [rowD, gTupD, gConsD, gNilD, wipeD, List.foldl, res_tup, qYes, if_true, z_is, z_intX_b, qSeq, qAsg, qTup, qCons, qNil, qOp, qUn, qC, qCall, qVar, qLst, newL_f, qIfS, qTB, qNext, qRet, qDrop, qFor, qCB, qAug, qSl, qPart, qNoPart, gNameD, gSub_eq, dInt_i, dInt0_i, dAdd_i, dCmpI_i, List.set_cons_zero, List.set_cons_succ, List.getElem?_cons_zero, List.getElem?_cons_succ, List.append_nil, z_l0, z_l1, z_l2, z_l3, z_l4, z_l5, z_l6, z_l7, z_l8, z_l9, z_l19, z_l24, z_l25, true_and]
    rw [optL_S] at hR
    refine ⟨rfl, ?_⟩
    simp only [z_isnot, z_intX_b]
    refine drv_list ?_
    refine add_lr hm2 ?_ hR
    have : y.1.2.toList.length ≤ 1 := by cases y.1.2 <;> simp
    simp only [List.length_map]; omega
  have e1 : ((es.zip (H.map (drvName hs))).zipIdx.map (rowD q)).filterMap (fun x => some (onG M x)) = (onL (H.map (drvName hs)) (othL hs d (es.zip (H.map (drvName hs))) (H.filterMap (drvName hs)))).map sLs := by
    rw [List.filterMap_eq_map']
    refine List.ext_getElem (by rw [List.length_map, lr, List.length_map, ON.len]) fun v h1 h2 => ?_
    have hv : v < es.length := by rw [List.length_map, lr] at h1; exact h1
    have ho : (othL hs d (es.zip (H.map (drvName hs))) (H.filterMap (drvName hs)))[v]? = some ((othL hs d (es.zip (H.map (drvName hs))) (H.filterMap (drvName hs)))[v]'(by rw [ol]; exact hv)) := List.getElem?_eq_getElem _
    have hm := ls _ _ ho
    simp only [List.getElem_map, List.getElem_zipIdx, List.getElem_zip, onL, List.getElem_zipWith, sLs, Nat.zero_add]
    simp only [onG, rowD, hm, optL_S, List.map_append]
  simp only [Bool.false_eq_true, if_false, e1]
  generalize onL (H.map (drvName hs)) (othL hs d (es.zip (H.map (drvName hs))) (H.filterMap (drvName hs))) = N at ON
  have n9 : ∀ l ∈ N, l.length ≤ 9 := fun l hl => by
    obtain ⟨v, hv⟩ := List.mem_iff_getElem?.mp hl
    have h1 := (List.getElem?_eq_some_iff.mp hv).1
    have h2 := ON.len
    have he : es[v]? = some (es[v]'(by omega)) := List.getElem?_eq_getElem _
    have h3 := (ON.se v _ l he hv).1
    have h4 := hs9 _ (List.mem_of_getElem? he)
    omega
  have nf : N.flatten.length ≤ 9 * N.length := flat_le9 n9
  have nl := ON.len
  simp only [qDNew, newL_t, qSeq, qAsg, qTup, qCons, qNil, qOp, qUn, qC, qCall, qVar, qLst, newL_f, qIfS, qTB, qNext, qRet, qDrop, qFor, qCB, qAug, qSl, qPart, qNoPart, gNameD, gSub_eq, dInt_i, dInt0_i, dAdd_i, dCmpI_i, List.set_cons_zero, List.set_cons_succ, List.getElem?_cons_zero, List.getElem?_cons_succ, List.append_nil, z_l0, z_l1, z_l2, z_l3, z_l4, z_l5, z_l6, z_l7, z_l8, z_l9, z_l19, z_l24, z_l25, true_and]
  intro a5 h5 a6 h6
  have n56 : a5 ≠ a6 := fun c => by rw [← c, put_same] at h6; cases h6
  have h6M : M a6 = none := by rw [put_ne n56.symm] at h6; exact h6
  have m5 : put (put M a5 (.dK [])) a6 (.lst []) a5 = some (.dK []) := by rw [put_ne n56, put_same]
  have m6 : put (put M a5 (.dK [])) a6 (.lst []) a6 = some (.lst []) := put_same
  have S1 : Sub M (put (put M a5 (.dK [])) a6 (.lst [])) := ((Sub.refl M).put h5).put h6M
  generalize put (put M a5 (.dK [])) a6 (.lst []) = M1 at m5 m6 S1
  simp only [gTupD, gConsD, gNilD, res_tup, qSeq, qAsg, qTup, qCons, qNil, qOp, qUn, qC, qCall, qVar, qLst, newL_f, qIfS, qTB, qNext, qRet, qDrop, qFor, qCB, qAug, qSl, qPart, qNoPart, gNameD, gSub_eq, dInt_i, dInt0_i, dAdd_i, dCmpI_i, List.set_cons_zero, List.set_cons_succ, List.getElem?_cons_zero, List.getElem?_cons_succ, List.append_nil, z_l0, z_l1, z_l2, z_l3, z_l4, z_l5, z_l6, z_l7, z_l8, z_l9, z_l19, z_l24, z_l25, true_and]
  refine ⟨rfl, ?_⟩
  simp only [qiAny, qSeq, qAsg, qTup, qCons, qNil, qOp, qUn, qC, qCall, qVar, qLst, newL_f, qIfS, qTB, qNext, qRet, qDrop, qFor, qCB, qAug, qSl, qPart, qNoPart, gNameD, gSub_eq, dInt_i, dInt0_i, dAdd_i, dCmpI_i, List.set_cons_zero, List.set_cons_succ, List.getElem?_cons_zero, List.getElem?_cons_succ, List.append_nil, z_l0, z_l1, z_l2, z_l3, z_l4, z_l5, z_l6, z_l7, z_l8, z_l9, z_l19, z_l24, z_l25, true_and]
  refine known_loop (i5 := 5) (i7 := 7) nd lh (by decide) ?_ ?_ m5 (fun x kvs hk => ?_)
  · rfl
  · simp
  have mk5 : KnownAt (put M1 a5 (.dK kvs)) a5 hs := ⟨⟨kvs, put_same, hk⟩⟩
  have mk6 : put M1 a5 (.dK kvs) a6 = some (.lst []) := by rw [put_ne n56.symm]; exact m6
  have S2 : Sub M (put M1 a5 (.dK kvs)) := fun a o h => by
    by_cases c : a = a5
    · rw [c, h5] at h; cases h
    · rw [put_ne c]; exact S1 a o h
  generalize put M1 a5 (.dK kvs) = M2 at mk5 mk6 S2
  clear hk m5 m6 S1
  have zl : es.length = (zipD (es.map egD) (N.map sLs)).length := by simp [nl]
  have zat : ∀ {i : Nat} {x : D}, (zipD (es.map egD) (N.map sLs))[i]? = some x → ∃ e l, es[i]? = some e ∧ N[i]? = some l ∧ x = .tup [egD e, sLs l] := fun {i x} h => by
    rw [zipD_get, List.getElem?_map, List.getElem?_map] at h
    cases he : es[i]? with
    | none => rw [he] at h; simp at h
    | some e =>
      cases hl : N[i]? with
      | none => rw [he, hl] at h; simp at h
      | some l =>
        rw [he, hl] at h
        simp only [Option.map_some, Option.some.injEq] at h
        exact ⟨e, l, rfl, rfl, h.symm⟩
  simp only [List.set_cons_zero, List.set_cons_succ, qiZipM, tupAt, lstAt, qSeq, qAsg, qTup, qCons, qNil, qOp, qUn, qC, qCall, qVar, qLst, newL_f, qIfS, qTB, qNext, qRet, qDrop, qFor, qCB, qAug, qSl, qPart, qNoPart, gNameD, gSub_eq, dInt_i, dInt0_i, dAdd_i, dCmpI_i, List.set_cons_zero, List.set_cons_succ, List.getElem?_cons_zero, List.getElem?_cons_succ, List.append_nil, z_l0, z_l1, z_l2, z_l3, z_l4, z_l5, z_l6, z_l7, z_l8, z_l9, z_l19, z_l24, z_l25, true_and]
  refine loopL_inv (fun i p M' => ∃ (p8 p9 p10 p11 p12 p13 p14 : Option D), p = [some (.tup (es.map egD)), some (.tup (hs.map hnD)), some (.int d), some (.ref t), some (.lst (N.map sLs)), some (.ref a5), some (.ref a6), x, p8, p9, p10, p11, p12, p13, p14] ∧ KnownAt M' a5 hs ∧ M' a6 = some (.lst ((N.take i).flatten.map .str)) ∧ Sub M M') (n := es.length) zl (fun i y p M' R hd' hI hR => ?_) (fun p M' hI => ?_)
    ⟨_, _, _, _, _, _, _, rfl, mk5, mk6, S2⟩
  · obtain ⟨p8, p9, p10, p11, p12, p13, p14, rfl, k5, k6, S3⟩ := hI
    obtain ⟨e, l, he, hl, rfl⟩ := zat hd'
    obtain ⟨sl, sm⟩ := ON.se i e l he hl
    refine ⟨trivial, ?_⟩
    simp only [gTupD, gConsD, gNilD, res_tup, qSeq, qAsg, qTup, qCons, qNil, qOp, qUn, qC, qCall, qVar, qLst, newL_f, qIfS, qTB, qNext, qRet, qDrop, qFor, qCB, qAug, qSl, qPart, qNoPart, gNameD, gSub_eq, dInt_i, dInt0_i, dAdd_i, dCmpI_i, List.set_cons_zero, List.set_cons_succ, List.getElem?_cons_zero, List.getElem?_cons_succ, List.append_nil, z_l0, z_l1, z_l2, z_l3, z_l4, z_l5, z_l6, z_l7, z_l8, z_l9, z_l19, z_l24, z_l25, true_and]
    refine ⟨rfl, ?_⟩
    have tk1 : (N.take (i + 1)).flatten = (N.take i).flatten ++ l := by rw [List.take_add_one, hl]; simp
    have tl : (N.take i).flatten.length ≤ 9 * N.length := Nat.le_trans (flat_le9 fun w hw => n9 w (List.mem_of_mem_take hw)) (by rw [List.length_take]; omega)
    have l9 := n9 l (List.mem_of_getElem? hl)
    simp only [qBM, mExt, k6, res_r k6, tyOk, sLs, res_lst, qSeq, qAsg, qTup, qCons, qNil, qOp, qUn, qC, qCall, qVar, qLst, newL_f, qIfS, qTB, qNext, qRet, qDrop, qFor, qCB, qAug, qSl, qPart, qNoPart, gNameD, gSub_eq, dInt_i, dInt0_i, dAdd_i, dCmpI_i, List.set_cons_zero, List.set_cons_succ, List.getElem?_cons_zero, List.getElem?_cons_succ, List.append_nil, z_l0, z_l1, z_l2, z_l3, z_l4, z_l5, z_l6, z_l7, z_l8, z_l9, z_l19, z_l24, z_l25, true_and]
    refine ⟨rfl, by simp only [List.length_map]; omega, ?_⟩
    have k6' : put M' a6 (.lst ((N.take i).flatten.map .str ++ l.map .str)) a6 = some (.lst ((N.take (i + 1)).flatten.map .str)) := by rw [put_same, tk1, List.map_append]
    have k5' : KnownAt (put M' a6 (.lst ((N.take i).flatten.map .str ++ l.map .str))) a5 hs := k5.sub fun o h => by rw [put_ne n56]; exact h
    have S4 : Sub M (put M' a6 (.lst ((N.take i).flatten.map .str ++ l.map .str))) := fun a o h => by
      by_cases c : a = a6
      · rw [c, h6M] at h; cases h
      · rw [put_ne c]; exact S3 a o h
    generalize put M' a6 (.lst ((N.take i).flatten.map .str ++ l.map .str)) = M3 at k5' k6' S4
    simp only [qOr, qNot, eg3, eg2, len_l, qLc, qiAny, List.length_map, show decide (e.2.2.2 < ((l.length : Nat) : Int)) = false from decide_eq_false (by omega), Bool.false_eq_true, if_false, qSeq, qAsg, qTup, qCons, qNil, qOp, qUn, qC, qCall, qVar, qLst, newL_f, qIfS, qTB, qNext, qRet, qDrop, qFor, qCB, qAug, qSl, qPart, qNoPart, gNameD, gSub_eq, dInt_i, dInt0_i, dAdd_i, dCmpI_i, List.set_cons_zero, List.set_cons_succ, List.getElem?_cons_zero, List.getElem?_cons_succ, List.append_nil, z_l0, z_l1, z_l2, z_l3, z_l4, z_l5, z_l6, z_l7, z_l8, z_l9, z_l19, z_l24, z_l25, true_and]
    intro c1 hc1
    refine lcN hc1 (fun _ => trivial) (by rw [List.length_map]; omega) (fun _ => .bl true) (fun z hz M4 R4 S5 hR4 => ?_) ?_
    · obtain ⟨z', hz', rfl⟩ := List.mem_map.mp hz
      obtain ⟨h, hh, rfl, hst, hw⟩ := sm z' hz'
      simp only [wipeD, qSeq, qAsg, qTup, qCons, qNil, qOp, qUn, qC, qCall, qVar, qLst, newL_f, qIfS, qTB, qNext, qRet, qDrop, qFor, qCB, qAug, qSl, qPart, qNoPart, gNameD, gSub_eq, dInt_i, dInt0_i, dAdd_i, dCmpI_i, List.set_cons_zero, List.set_cons_succ, List.getElem?_cons_zero, List.getElem?_cons_succ, List.append_nil, z_l0, z_l1, z_l2, z_l3, z_l4, z_l5, z_l6, z_l7, z_l8, z_l9, z_l19, z_l24, z_l25, true_and]
      refine (k5'.sub fun o => S5 _ o).ix hh ?_
      simp only [hd1, eg2, z_eq_str, hst, decide_true, Bool.false_xor]
      exact hR4
    have e2 : (l.map D.str).map (fun _ => D.bl true) = (l.map fun _ => true).map D.bl := by rw [List.map_map, List.map_map]; rfl
    rw [e2, all_bls, all_true]
    simp only [Bool.not_true, Bool.false_eq_true, if_false, qLc, qiAny, qSeq, qAsg, qTup, qCons, qNil, qOp, qUn, qC, qCall, qVar, qLst, newL_f, qIfS, qTB, qNext, qRet, qDrop, qFor, qCB, qAug, qSl, qPart, qNoPart, gNameD, gSub_eq, dInt_i, dInt0_i, dAdd_i, dCmpI_i, List.set_cons_zero, List.set_cons_succ, List.getElem?_cons_zero, List.getElem?_cons_succ, List.append_nil, z_l0, z_l1, z_l2, z_l3, z_l4, z_l5, z_l6, z_l7, z_l8, z_l9, z_l19, z_l24, z_l25, true_and]
    intro c2 hc2
    refine lcN hc2 (fun _ => trivial) (by rw [List.length_map]; omega) (fun _ => .bl true) (fun z hz M4 R4 S5 hR4 => ?_) ?_
    · obtain ⟨z', hz', rfl⟩ := List.mem_map.mp hz
      obtain ⟨h, hh, rfl, hst, hw⟩ := sm z' hz'
      obtain ⟨s0, s1, sk⟩ := hq.ok h hh
      simp only [wipeD, qSeq, qAsg, qTup, qCons, qNil, qOp, qUn, qC, qCall, qVar, qLst, newL_f, qIfS, qTB, qNext, qRet, qDrop, qFor, qCB, qAug, qSl, qPart, qNoPart, gNameD, gSub_eq, dInt_i, dInt0_i, dAdd_i, dCmpI_i, List.set_cons_zero, List.set_cons_succ, List.getElem?_cons_zero, List.getElem?_cons_succ, List.append_nil, z_l0, z_l1, z_l2, z_l3, z_l4, z_l5, z_l6, z_l7, z_l8, z_l9, z_l19, z_l24, z_l25, true_and]
      refine (k5'.sub fun o => S5 _ o).ix hh ?_
      refine ⟨h, d, rfl, d0, d1, s0, s1, ?_⟩
      rw [hw]; exact hR4
    rw [e2, all_bls, all_true]
    simp only [Bool.not_true, Bool.false_eq_true, if_false, qSeq, qAsg, qTup, qCons, qNil, qOp, qUn, qC, qCall, qVar, qLst, newL_f, qIfS, qTB, qNext, qRet, qDrop, qFor, qCB, qAug, qSl, qPart, qNoPart, gNameD, gSub_eq, dInt_i, dInt0_i, dAdd_i, dCmpI_i, List.set_cons_zero, List.set_cons_succ, List.getElem?_cons_zero, List.getElem?_cons_succ, List.append_nil, z_l0, z_l1, z_l2, z_l3, z_l4, z_l5, z_l6, z_l7, z_l8, z_l9, z_l19, z_l24, z_l25, true_and]
    exact hR _ _ ⟨_, _, _, _, _, _, _, rfl, k5', k6', S4⟩
  obtain ⟨p8, p9, p10, p11, p12, p13, p14, rfl, k5, k6, S3⟩ := hI
  have tN : N.take es.length = N := by rw [← nl, List.take_length]
  rw [tN] at k6
  refine ⟨trivial, ?_⟩
  have ms : metS N.flatten N.flatten.length = N.flatten.length := (metS_nodup _).mpr ON.nd
  simp only [qLenSet, res_r k6, strsD_map, len_r k6, List.length_map, ms, qSeq, qAsg, qTup, qCons, qNil, qOp, qUn, qC, qCall, qVar, qLst, newL_f, qIfS, qTB, qNext, qRet, qDrop, qFor, qCB, qAug, qSl, qPart, qNoPart, gNameD, gSub_eq, dInt_i, dInt0_i, dAdd_i, dCmpI_i, List.set_cons_zero, List.set_cons_succ, List.getElem?_cons_zero, List.getElem?_cons_succ, List.append_nil, z_l0, z_l1, z_l2, z_l3, z_l4, z_l5, z_l6, z_l7, z_l8, z_l9, z_l19, z_l24, z_l25, true_and]
  refine ⟨by omega, ?_⟩
  simp only [z_ne_int, decide_true, Bool.not_true, Bool.false_eq_true, if_false, qiZipM, tupAt, lstAt, qSeq, qAsg, qTup, qCons, qNil, qOp, qUn, qC, qCall, qVar, qLst, newL_f, qIfS, qTB, qNext, qRet, qDrop, qFor, qCB, qAug, qSl, qPart, qNoPart, gNameD, gSub_eq, dInt_i, dInt0_i, dAdd_i, dCmpI_i, List.set_cons_zero, List.set_cons_succ, List.getElem?_cons_zero, List.getElem?_cons_succ, List.append_nil, z_l0, z_l1, z_l2, z_l3, z_l4, z_l5, z_l6, z_l7, z_l8, z_l9, z_l19, z_l24, z_l25, true_and]
  refine loopL_inv (fun i p M2 => ∃ (p7 p8 p9 p10 p11 p12 p13 p14 : Option D), p = [some (.tup (es.map egD)), some (.tup (hs.map hnD)), some (.int d), some (.ref t), some (.lst (N.map sLs)), some (.ref a5), some (.ref a6), p7, p8, p9, p10, p11, p12, p13, p14] ∧ M2 = M') (n := es.length) zl (fun i y p M2 R hd' hI hR => ?_) (fun p M2 hI => ?_)
    ⟨_, _, _, _, _, _, _, _, rfl, rfl⟩
  · obtain ⟨p7, p8, p9, p10, p11, p12, p13, p14, rfl, rfl⟩ := hI
    obtain ⟨e, l, he, hl, rfl⟩ := zat hd'
    refine ⟨trivial, ?_⟩
    simp only [gTupD, gConsD, gNilD, res_tup, qSeq, qAsg, qTup, qCons, qNil, qOp, qUn, qC, qCall, qVar, qLst, newL_f, qIfS, qTB, qNext, qRet, qDrop, qFor, qCB, qAug, qSl, qPart, qNoPart, gNameD, gSub_eq, dInt_i, dInt0_i, dAdd_i, dCmpI_i, List.set_cons_zero, List.set_cons_succ, List.getElem?_cons_zero, List.getElem?_cons_succ, List.append_nil, z_l0, z_l1, z_l2, z_l3, z_l4, z_l5, z_l6, z_l7, z_l8, z_l9, z_l19, z_l24, z_l25, true_and]
    refine ⟨rfl, ?_⟩
    simp only [qChain, sLs, len_l, eg3, List.length_map, qSeq, qAsg, qTup, qCons, qNil, qOp, qUn, qC, qCall, qVar, qLst, newL_f, qIfS, qTB, qNext, qRet, qDrop, qFor, qCB, qAug, qSl, qPart, qNoPart, gNameD, gSub_eq, dInt_i, dInt0_i, dAdd_i, dCmpI_i, List.set_cons_zero, List.set_cons_succ, List.getElem?_cons_zero, List.getElem?_cons_succ, List.append_nil, z_l0, z_l1, z_l2, z_l3, z_l4, z_l5, z_l6, z_l7, z_l8, z_l9, z_l19, z_l24, z_l25, true_and]
    by_cases c0 : 0 < l.length
    · simp only [show decide ((0 : Int) < ((l.length : Nat) : Int)) = true from decide_eq_true (by omega), if_true]
      by_cases c1 : (l.length : Int) < e.2.2.2
      · simp only [c1, decide_true, if_true, qLc, qiAny, qSeq, qAsg, qTup, qCons, qNil, qOp, qUn, qC, qCall, qVar, qLst, newL_f, qIfS, qTB, qNext, qRet, qDrop, qFor, qCB, qAug, qSl, qPart, qNoPart, gNameD, gSub_eq, dInt_i, dInt0_i, dAdd_i, dCmpI_i, List.set_cons_zero, List.set_cons_succ, List.getElem?_cons_zero, List.getElem?_cons_succ, List.append_nil, z_l0, z_l1, z_l2, z_l3, z_l4, z_l5, z_l6, z_l7, z_l8, z_l9, z_l19, z_l24, z_l25, true_and]
        intro c2 hc2
        refine compL_map hc2 (frF e d) (fun _ => trivial) (by rw [List.length_map]; omega) (fun z hz acc R4 hR4 => ?_) ?_
        · obtain ⟨h, hh, rfl⟩ := List.mem_map.mp hz
          obtain ⟨s0, s1, sk⟩ := hq.ok h hh
          rw [frF_h] at hR4
          simp only [wipeD, qAnd, hd1, hd0, eg2, z_eq_str, qSeq, qAsg, qTup, qCons, qNil, qOp, qUn, qC, qCall, qVar, qLst, newL_f, qIfS, qTB, qNext, qRet, qDrop, qFor, qCB, qAug, qSl, qPart, qNoPart, gNameD, gSub_eq, dInt_i, dInt0_i, dAdd_i, dCmpI_i, List.set_cons_zero, List.set_cons_succ, List.getElem?_cons_zero, List.getElem?_cons_succ, List.append_nil, z_l0, z_l1, z_l2, z_l3, z_l4, z_l5, z_l6, z_l7, z_l8, z_l9, z_l19, z_l24, z_l25, true_and]
          by_cases c3 : h.2.1 = e.2.2.1
          · simp only [c3, decide_true, if_true, Bool.true_and] at hR4 ⊢
            refine ⟨h, d, rfl, d0, d1, s0, s1, ?_⟩
            cases c4 : onW h d with
            | true => rw [c4] at hR4; simp only [if_true, hd0] at hR4 ⊢; exact hR4
            | false => rw [c4] at hR4; simp only [Bool.false_eq_true, if_false] at hR4 ⊢; exact hR4
          · simp only [c3, decide_false, Bool.false_and, Bool.false_eq_true, if_false] at hR4 ⊢
            exact hR4
        · have ef : (hs.map hnD).filterMap (frF e d) = (freeN hs e d).map .str := frF_map hs
          simp only [Bool.false_eq_true, if_false, ef, qLc, qiAny, qSeq, qAsg, qTup, qCons, qNil, qOp, qUn, qC, qCall, qVar, qLst, newL_f, qIfS, qTB, qNext, qRet, qDrop, qFor, qCB, qAug, qSl, qPart, qNoPart, gNameD, gSub_eq, dInt_i, dInt0_i, dAdd_i, dCmpI_i, List.set_cons_zero, List.set_cons_succ, List.getElem?_cons_zero, List.getElem?_cons_succ, List.append_nil, z_l0, z_l1, z_l2, z_l3, z_l4, z_l5, z_l6, z_l7, z_l8, z_l9, z_l19, z_l24, z_l25, true_and]
          intro c3 hc3
          have fl : (freeN hs e d).length ≤ 60 := by unfold freeN; rw [List.length_map]; exact Nat.le_trans (List.length_filter_le ..) lh
          refine lcN hc3 (fun _ => trivial) (by rw [List.length_map]; omega) (fun _ => .bl true) (fun z hz M4 R4 S5 hR4 => ?_) ?_
          · obtain ⟨z', hz', rfl⟩ := List.mem_map.mp hz
            have hm := ON.all i e l he hl c0 c1 z' hz'
            simp only [wipeD, in_refK (S5 _ _ k6), hm, decide_true, Bool.false_xor, qSeq, qAsg, qTup, qCons, qNil, qOp, qUn, qC, qCall, qVar, qLst, newL_f, qIfS, qTB, qNext, qRet, qDrop, qFor, qCB, qAug, qSl, qPart, qNoPart, gNameD, gSub_eq, dInt_i, dInt0_i, dAdd_i, dCmpI_i, List.set_cons_zero, List.set_cons_succ, List.getElem?_cons_zero, List.getElem?_cons_succ, List.append_nil, z_l0, z_l1, z_l2, z_l3, z_l4, z_l5, z_l6, z_l7, z_l8, z_l9, z_l19, z_l24, z_l25, true_and]
            exact hR4
          have e2 : ((freeN hs e d).map D.str).map (fun _ => D.bl true) = ((freeN hs e d).map fun _ => true).map D.bl := by rw [List.map_map, List.map_map]; rfl
          simp only [qSeq, qAsg, qTup, qCons, qNil, qOp, qUn, qC, qCall, qVar, qLst, newL_f, qIfS, qTB, qNext, qRet, qDrop, qFor, qCB, qAug, qSl, qPart, qNoPart, gNameD, gSub_eq, dInt_i, dInt0_i, dAdd_i, dCmpI_i, List.set_cons_zero, List.set_cons_succ, List.getElem?_cons_zero, List.getElem?_cons_succ, List.append_nil, z_l0, z_l1, z_l2, z_l3, z_l4, z_l5, z_l6, z_l7, z_l8, z_l9, z_l19, z_l24, z_l25, true_and]
          rw [e2, all_bls, all_true]
          simp only [Bool.not_true, Bool.false_eq_true, if_false, qSeq, qAsg, qTup, qCons, qNil, qOp, qUn, qC, qCall, qVar, qLst, newL_f, qIfS, qTB, qNext, qRet, qDrop, qFor, qCB, qAug, qSl, qPart, qNoPart, gNameD, gSub_eq, dInt_i, dInt0_i, dAdd_i, dCmpI_i, List.set_cons_zero, List.set_cons_succ, List.getElem?_cons_zero, List.getElem?_cons_succ, List.append_nil, z_l0, z_l1, z_l2, z_l3, z_l4, z_l5, z_l6, z_l7, z_l8, z_l9, z_l19, z_l24, z_l25, true_and]
          exact hR _ _ ⟨_, _, _, _, _, _, _, _, rfl, rfl⟩
      · simp only [c1, decide_false, Bool.false_eq_true, if_false, qSeq, qAsg, qTup, qCons, qNil, qOp, qUn, qC, qCall, qVar, qLst, newL_f, qIfS, qTB, qNext, qRet, qDrop, qFor, qCB, qAug, qSl, qPart, qNoPart, gNameD, gSub_eq, dInt_i, dInt0_i, dAdd_i, dCmpI_i, List.set_cons_zero, List.set_cons_succ, List.getElem?_cons_zero, List.getElem?_cons_succ, List.append_nil, z_l0, z_l1, z_l2, z_l3, z_l4, z_l5, z_l6, z_l7, z_l8, z_l9, z_l19, z_l24, z_l25, true_and]
        exact hR _ _ ⟨_, _, _, _, _, _, _, _, rfl, rfl⟩
    · simp only [show decide ((0 : Int) < ((l.length : Nat) : Int)) = false from decide_eq_false (by omega), Bool.false_eq_true, if_false, qSeq, qAsg, qTup, qCons, qNil, qOp, qUn, qC, qCall, qVar, qLst, newL_f, qIfS, qTB, qNext, qRet, qDrop, qFor, qCB, qAug, qSl, qPart, qNoPart, gNameD, gSub_eq, dInt_i, dInt0_i, dAdd_i, dCmpI_i, List.set_cons_zero, List.set_cons_succ, List.getElem?_cons_zero, List.getElem?_cons_succ, List.append_nil, z_l0, z_l1, z_l2, z_l3, z_l4, z_l5, z_l6, z_l7, z_l8, z_l9, z_l19, z_l24, z_l25, true_and]
      exact hR _ _ ⟨_, _, _, _, _, _, _, _, rfl, rfl⟩
  · obtain ⟨p7, p8, p9, p10, p11, p12, p13, p14, rfl, rfl⟩ := hI
    refine ⟨trivial, ?_⟩
    have mt3 := S3 _ _ mt
    simp only [mt3, qLc, qiAny, qSeq, qAsg, qTup, qCons, qNil, qOp, qUn, qC, qCall, qVar, qLst, newL_f, qIfS, qTB, qNext, qRet, qDrop, qFor, qCB, qAug, qSl, qPart, qNoPart, gNameD, gSub_eq, dInt_i, dInt0_i, dAdd_i, dCmpI_i, List.set_cons_zero, List.set_cons_succ, List.getElem?_cons_zero, List.getElem?_cons_succ, List.append_nil, z_l0, z_l1, z_l2, z_l3, z_l4, z_l5, z_l6, z_l7, z_l8, z_l9, z_l19, z_l24, z_l25, true_and]
    intro c1 hc1
    refine compL_map hc1 oneF (fun acc => put_keep mt3 hc1) (by rw [lr]; omega) (fun x hx acc R hR => ?_) ?_
    · obtain ⟨y, _, rfl⟩ := List.mem_map.mp hx
      rw [oneF_row] at hR
      simp only [wipeD, row1, z_isnot, qSeq, qAsg, qTup, qCons, qNil, qOp, qUn, qC, qCall, qVar, qLst, newL_f, qIfS, qTB, qNext, qRet, qDrop, qFor, qCB, qAug, qSl, qPart, qNoPart, gNameD, gSub_eq, dInt_i, dInt0_i, dAdd_i, dCmpI_i, List.set_cons_zero, List.set_cons_succ, List.getElem?_cons_zero, List.getElem?_cons_succ, List.append_nil, z_l0, z_l1, z_l2, z_l3, z_l4, z_l5, z_l6, z_l7, z_l8, z_l9, z_l19, z_l24, z_l25, true_and]
      cases c : y.1.2 with
      | none => rw [c] at hR; simp only [optS, isNon, Bool.not_true, Bool.false_eq_true, if_false] at hR ⊢; exact hR
      | some z => rw [c] at hR; simp only [optS, isNon, Bool.not_false, if_true] at hR ⊢; exact hR
    · simp only [Bool.false_eq_true, if_false, len_l, qSeq, qAsg, qTup, qCons, qNil, qOp, qUn, qC, qCall, qVar, qLst, newL_f, qIfS, qTB, qNext, qRet, qDrop, qFor, qCB, qAug, qSl, qPart, qNoPart, gNameD, gSub_eq, dInt_i, dInt0_i, dAdd_i, dCmpI_i, List.set_cons_zero, List.set_cons_succ, List.getElem?_cons_zero, List.getElem?_cons_succ, List.append_nil, z_l0, z_l1, z_l2, z_l3, z_l4, z_l5, z_l6, z_l7, z_l8, z_l9, z_l19, z_l24, z_l25, true_and]
      refine ⟨es, hs, d, rfl, pre, fun M4 S4 => ?_⟩
      have e4 : (((es.zip (H.map (drvName hs))).zipIdx.map (rowD q)).filterMap oneF).length = (heldOf (wsK es hs d)).length := by
        rw [← SD, ones_len]
        have := zip_snd2 (es := es) lD
        rw [this]
      rw [e4]
      simp only [z_eq_int, decide_true]
      exact k _ (S3.trans S4)
end DL
namespace K17
open PySem L2 DL
def top (i : Nat) : Stmt := PySem.Challenge.pw_whistleboard_k17_whole_crews.main.body.getD i (.Pass ⟨0, 0, 0, 0⟩)
abbrev F_Ground : List Str := [(PySem.Str.ofString "risks"), (PySem.Str.ofString "places"), (PySem.Str.ofString "roads"), (PySem.Str.ofString "stations")]
abbrev s_is_whole : Stmt := top 4
abbrev N_is_whole : List Str := ["thing", "low", "high"]
theorem sc_is_whole : FnScope N_is_whole ["thing", "low", "high"] (defScope s_is_whole) := ⟨rfl, rfl, rfl, by decide +kernel, rfl, by decide +kernel, by decide +kernel⟩
abbrev s_is_name : Stmt := top 5
abbrev N_is_name : List Str := ["thing", "sign"]
theorem sc_is_name : FnScope N_is_name ["thing"] (defScope s_is_name) := ⟨rfl, rfl, rfl, by decide +kernel, rfl, by decide +kernel, by decide +kernel⟩
abbrev s_is_one_of : Stmt := top 6
abbrev N_is_one_of : List Str := ["thing", "texts"]
theorem sc_is_one_of : FnScope N_is_one_of ["thing", "texts"] (defScope s_is_one_of) := ⟨rfl, rfl, rfl, by decide +kernel, rfl, by decide +kernel, by decide +kernel⟩
abbrev s_is_tuple_of : Stmt := top 7
abbrev N_is_tuple_of : List Str := ["thing", "many"]
theorem sc_is_tuple_of : FnScope N_is_tuple_of ["thing", "many"] (defScope s_is_tuple_of) := ⟨rfl, rfl, rfl, by decide +kernel, rfl, by decide +kernel, by decide +kernel⟩
abbrev s_gets_holder : Stmt := top 12
abbrev N_gets_holder : List Str := ["wishes", "held", "wish", "tried", "holder"]
theorem sc_gets_holder : FnScope N_gets_holder ["wishes", "held", "wish", "tried"] (defScope s_gets_holder) := ⟨rfl, rfl, rfl, by decide +kernel, rfl, by decide +kernel, by decide +kernel⟩
abbrev s_band_of : Stmt := top 13
abbrev N_band_of : List Str := ["wishes", "pairs", "held", "found", "waiting", "wish", "holder"]
theorem sc_band_of : FnScope N_band_of ["wishes", "pairs", "held"] (defScope s_band_of) := ⟨rfl, rfl, rfl, by decide +kernel, rfl, by decide +kernel, by decide +kernel⟩
abbrev s_paired : Stmt := top 14
abbrev N_paired : List Str := ["wishes", "held", "wish", "pairs", "holder"]
theorem sc_paired : FnScope N_paired ["wishes"] (defScope s_paired) := ⟨rfl, rfl, rfl, by decide +kernel, rfl, by decide +kernel, by decide +kernel⟩
abbrev s_is_on_watch : Stmt := top 16
abbrev N_is_on_watch : List Str := ["hand", "day"]
theorem sc_is_on_watch : FnScope N_is_on_watch ["hand", "day"] (defScope s_is_on_watch) := ⟨rfl, rfl, rfl, by decide +kernel, rfl, by decide +kernel, by decide +kernel⟩
abbrev s_can_drive : Stmt := top 17
abbrev N_can_drive : List Str := ["hand", "day", "skill", "last"]
theorem sc_can_drive : FnScope N_can_drive ["hand", "day"] (defScope s_can_drive) := ⟨rfl, rfl, rfl, by decide +kernel, rfl, by decide +kernel, by decide +kernel⟩
abbrev s_drivers_for : Stmt := top 18
abbrev N_drivers_for : List Str := ["engine", "hands", "day", "found", "place", "hand"]
theorem sc_drivers_for : FnScope N_drivers_for ["engine", "hands", "day"] (defScope s_drivers_for) := ⟨rfl, rfl, rfl, by decide +kernel, rfl, by decide +kernel, by decide +kernel⟩
abbrev s_crews : Stmt := top 19
abbrev N_crews : List Str := ["engines", "hands", "day", "holders", "taken", "found", "engine", "holder", "driver", "others", "free", "names", "hand", "name"]
theorem sc_crews : FnScope N_crews ["engines", "hands", "day"] (defScope s_crews) := ⟨rfl, rfl, rfl, by decide +kernel, rfl, by decide +kernel, by decide +kernel⟩
abbrev s_is_place : Stmt := top 27
abbrev N_is_place : List Str := ["thing"]
theorem sc_is_place : FnScope N_is_place ["thing"] (defScope s_is_place) := ⟨rfl, rfl, rfl, by decide +kernel, rfl, by decide +kernel, by decide +kernel⟩
abbrev s_places_fault : Stmt := top 28
abbrev N_places_fault : List Str := ["thing", "seen", "at", "one"]
theorem sc_places_fault : FnScope N_places_fault ["thing"] (defScope s_places_fault) := ⟨rfl, rfl, rfl, by decide +kernel, rfl, by decide +kernel, by decide +kernel⟩
abbrev s_is_road : Stmt := top 29
abbrev s_roads_fault : Stmt := top 30
abbrev N_roads_fault : List Str := ["names", "thing", "seen", "at", "one"]
theorem sc_roads_fault : FnScope N_roads_fault ["names", "thing"] (defScope s_roads_fault) := ⟨rfl, rfl, rfl, by decide +kernel, rfl, by decide +kernel, by decide +kernel⟩
abbrev s_stations_fault : Stmt := top 31
abbrev N_stations_fault : List Str := ["names", "thing", "at", "one"]
theorem sc_stations_fault : FnScope N_stations_fault ["names", "thing"] (defScope s_stations_fault) := ⟨rfl, rfl, rfl, by decide +kernel, rfl, by decide +kernel, by decide +kernel⟩
abbrev s_need : Stmt := top 32
abbrev N_need : List Str := ["part", "at"]
theorem sc_need : FnScope N_need ["part", "at"] (defScope s_need) := ⟨rfl, rfl, rfl, by decide +kernel, rfl, by decide +kernel, by decide +kernel⟩
abbrev s_Ground___init__ : Stmt := inClass (top 35) 0
abbrev N_Ground___init__ : List Str := ["self", "places", "roads", "stations"]
theorem sc_Ground___init__ : FnScope N_Ground___init__ ["self", "places", "roads", "stations"] (defScope s_Ground___init__) := ⟨rfl, rfl, rfl, by decide +kernel, rfl, by decide +kernel, by decide +kernel⟩
abbrev s__law_bag : Stmt := top 37
abbrev N__law_bag : List Str := ["_law_script", "_law_at", "_law_cell", "_law_great", "_law_primes"]
theorem sc__law_bag : FnScope N__law_bag ["_law_script", "_law_at"] (defScope s__law_bag) := ⟨rfl, rfl, rfl, by decide +kernel, rfl, by decide +kernel, by decide +kernel⟩
abbrev s__law_take : Stmt := top 38
abbrev N__law_take : List Str := ["_law_bag_here", "_law_many", "_law_digit"]
theorem sc__law_take : FnScope N__law_take ["_law_bag_here", "_law_many"] (defScope s__law_take) := ⟨rfl, rfl, rfl, by decide +kernel, rfl, by decide +kernel, by decide +kernel⟩
abbrev s__law_names : Stmt := top 39
abbrev N__law_names : List Str := ["_law_bag_here", "_law_many", "_law_letters", "_law_first", "_law_shift", "_law_found", "_law_k", "_law_stem", "_law_own", "_law_step"]
theorem sc__law_names : FnScope N__law_names ["_law_bag_here", "_law_many"] (defScope s__law_names) := ⟨rfl, rfl, rfl, by decide +kernel, rfl, by decide +kernel, by decide +kernel⟩
abbrev s__law_ground : Stmt := top 40
abbrev N__law_ground : List Str := ["_law_bag_here", "_law_most_here", "_law_names_here", "_law_many", "_law_places", "_law_name"]
theorem sc__law_ground : FnScope N__law_ground ["_law_bag_here", "_law_most_here"] (defScope s__law_ground) := ⟨rfl, rfl, rfl, by decide +kernel, rfl, by decide +kernel, by decide +kernel⟩
abbrev s__law_engines : Stmt := top 41
abbrev N__law_engines : List Str := ["_law_bag_here", "_law_stations", "_law_most_here", "_law_names_here", "_law_found", "_law_k", "_law_sort", "_law_seats"]
theorem sc__law_engines : FnScope N__law_engines ["_law_bag_here", "_law_stations", "_law_most_here"] (defScope s__law_engines) := ⟨rfl, rfl, rfl, by decide +kernel, rfl, by decide +kernel, by decide +kernel⟩
abbrev s__law_hands : Stmt := top 42
abbrev N__law_hands : List Str := ["_law_bag_here", "_law_stations", "_law_most_here", "_law_letters", "_law_first", "_law_stem", "_law_found", "_law_k", "_law_name", "_law_skills", "_law_turn", "_law_skill"]
theorem sc__law_hands : FnScope N__law_hands ["_law_bag_here", "_law_stations", "_law_most_here"] (defScope s__law_hands) := ⟨rfl, rfl, rfl, by decide +kernel, rfl, by decide +kernel, by decide +kernel⟩
abbrev s__law_watch : Stmt := top 43
abbrev N__law_watch : List Str := ["_law_hand", "_law_date"]
theorem sc__law_watch : FnScope N__law_watch ["_law_hand", "_law_date"] (defScope s__law_watch) := ⟨rfl, rfl, rfl, by decide +kernel, rfl, by decide +kernel, by decide +kernel⟩
abbrev s__law_drives : Stmt := top 44
abbrev N__law_drives : List Str := ["_law_engine", "_law_hand", "_law_date", "_law_skill", "_law_last"]
theorem sc__law_drives : FnScope N__law_drives ["_law_engine", "_law_hand", "_law_date"] (defScope s__law_drives) := ⟨rfl, rfl, rfl, by decide +kernel, rfl, by decide +kernel, by decide +kernel⟩
abbrev s__law_gets : Stmt := top 46
abbrev N__law_gets : List Str := ["_law_wants", "_law_held", "_law_wish", "_law_tried", "_law_holder"]
theorem sc__law_gets : FnScope N__law_gets ["_law_wants", "_law_held", "_law_wish", "_law_tried"] (defScope s__law_gets) := ⟨rfl, rfl, rfl, by decide +kernel, rfl, by decide +kernel, by decide +kernel⟩
abbrev s__law_most : Stmt := top 47
abbrev N__law_most : List Str := ["_law_cars", "_law_folk", "_law_date", "_law_wants", "_law_held", "_law_wish", "_law_engine", "_law_k", "_law_hand"]
theorem sc__law_most : FnScope N__law_most ["_law_cars", "_law_folk", "_law_date"] (defScope s__law_most) := ⟨rfl, rfl, rfl, by decide +kernel, rfl, by decide +kernel, by decide +kernel⟩
abbrev s__law_holds : Stmt := top 48
abbrev N__law_holds : List Str := ["_law_cars", "_law_folk", "_law_date", "_law_told", "_law_on", "_law_known", "_law_seated", "_law_hand", "_law_engine", "_law_names_here", "_law_there", "_law_name", "_law_driver", "_law_some", "_law_one"]
theorem sc__law_holds : FnScope N__law_holds ["_law_cars", "_law_folk", "_law_date", "_law_told"] (defScope s__law_holds) := ⟨rfl, rfl, rfl, by decide +kernel, rfl, by decide +kernel, by decide +kernel⟩
abbrev s_law : Stmt := top 49
abbrev N_law : List Str := ["_law_script", "_law_k", "_law_bag_here", "_law_other", "_law_stations", "_law_cars", "_law_folk", "_law_kept", "_law_date", "_law_told", "_law_copy", "_law_again", "_law_name", "_law_driver", "_law_some"]
theorem sc_law : FnScope N_law ["_law_script"] (defScope s_law) := ⟨rfl, rfl, rfl, by decide +kernel, rfl, by decide +kernel, by decide +kernel⟩
abbrev s_NoGround_init : Stmt := inClass (top 9) 0
theorem sc_NoGround_init : FnScope ["self", "part", "at"] ["self", "part", "at"] (defScope s_NoGround_init) := ⟨rfl, rfl, rfl, by decide +kernel, rfl, by decide +kernel, by decide +kernel⟩
structure Tx (w : World) (K : PySem.W.Frag) (mg : Str → Option Value) where
  c_Ground : ClsO K mg "Ground" F_Ground
  f_is_whole : FnAt K mg "is_whole" s_is_whole ["thing", "low", "high"]
  f_is_name : FnAt K mg "is_name" s_is_name ["thing"]
  f_is_one_of : FnAt K mg "is_one_of" s_is_one_of ["thing", "texts"]
  f_is_tuple_of : FnAt K mg "is_tuple_of" s_is_tuple_of ["thing", "many"]
  f_gets_holder : FnAt K mg "gets_holder" s_gets_holder ["wishes", "held", "wish", "tried"]
  f_band_of : FnAt K mg "band_of" s_band_of ["wishes", "pairs", "held"]
  f_paired : FnAt K mg "paired" s_paired ["wishes"]
  f_is_on_watch : FnAt K mg "is_on_watch" s_is_on_watch ["hand", "day"]
  f_can_drive : FnAt K mg "can_drive" s_can_drive ["hand", "day"]
  f_drivers_for : FnAt K mg "drivers_for" s_drivers_for ["engine", "hands", "day"]
  f_crews : FnAt K mg "crews" s_crews ["engines", "hands", "day"]
  f_is_place : FnAt K mg "is_place" s_is_place ["thing"]
  f_places_fault : FnAt K mg "places_fault" s_places_fault ["thing"]
  f_is_road : FnAt K mg "is_road" s_is_road ["names", "thing"]
  f_roads_fault : FnAt K mg "roads_fault" s_roads_fault ["names", "thing"]
  f_stations_fault : FnAt K mg "stations_fault" s_stations_fault ["names", "thing"]
  f_need : FnAt K mg "need" s_need ["part", "at"]
  f_Ground___init__ : MthAt K c_Ground.C "__init__" "Ground.__init__" s_Ground___init__ ["self", "places", "roads", "stations"]
  mk_Ground : Mk K c_Ground.C f_Ground___init__.f
  f__law_bag : FnAt K mg "_law_bag" s__law_bag ["_law_script", "_law_at"]
  f__law_take : FnAt K mg "_law_take" s__law_take ["_law_bag_here", "_law_many"]
  f__law_names : FnAt K mg "_law_names" s__law_names ["_law_bag_here", "_law_many"]
  f__law_ground : FnAt K mg "_law_ground" s__law_ground ["_law_bag_here", "_law_most_here"]
  f__law_engines : FnAt K mg "_law_engines" s__law_engines ["_law_bag_here", "_law_stations", "_law_most_here"]
  f__law_hands : FnAt K mg "_law_hands" s__law_hands ["_law_bag_here", "_law_stations", "_law_most_here"]
  f__law_watch : FnAt K mg "_law_watch" s__law_watch ["_law_hand", "_law_date"]
  f__law_drives : FnAt K mg "_law_drives" s__law_drives ["_law_engine", "_law_hand", "_law_date"]
  f__law_gets : FnAt K mg "_law_gets" s__law_gets ["_law_wants", "_law_held", "_law_wish", "_law_tried"]
  f__law_most : FnAt K mg "_law_most" s__law_most ["_law_cars", "_law_folk", "_law_date"]
  f__law_holds : FnAt K mg "_law_holds" s__law_holds ["_law_cars", "_law_folk", "_law_date", "_law_told"]
  f_law : FnAt K mg "law" s_law ["_law_script"]
  n_ValueError : mg "ValueError" = none
  n_abs : mg "abs" = none
  n_all : mg "all" = none
  n_any : mg "any" = none
  n_bool : mg "bool" = none
  n_dict : mg "dict" = none
  n_enumerate : mg "enumerate" = none
  n_int : mg "int" = none
  n_isinstance : mg "isinstance" = none
  n_len : mg "len" = none
  n_list : mg "list" = none
  n_max : mg "max" = none
  n_min : mg "min" = none
  n_range : mg "range" = none
  n_set : mg "set" = none
  n_sorted : mg "sorted" = none
  n_str : mg "str" = none
  n_tuple : mg "tuple" = none
  n_zip : mg "zip" = none
  g_LETTERS : GlS mg "LETTERS" (PySem.Str.ofString "abcdefghijklmnopqrstuvwxyz")
  g_MOST_LETTERS : GlI mg "MOST_LETTERS" (8)
  g_MOST_MINUTES : GlI mg "MOST_MINUTES" (60)
  g_MOST_PLACES : GlI mg "MOST_PLACES" (40)
  g_MOST_RISK : GlI mg "MOST_RISK" (4)
  g_MOST_ROADS : GlI mg "MOST_ROADS" (80)
  g_MOST_STATIONS : GlI mg "MOST_STATIONS" (12)
  c_NoGround : XAt K mg "NoGround" "ValueError" "ValueError.__new__" "ValueError.__init__" tl_ValueError s_NoGround_init "NoGround.__init__" ["self", "part", "at"] [(PySem.Str.ofString "part"), (PySem.Str.ofString "at")]
section
variable {P : Program} {w : World} {K : PySem.W.Frag} {mg : Str → Option Value} {base : Heap}
theorem in_NoGround (T : Tx w K mg) : FnOk P w K mg base (L2.CX P w) 1 T.c_NoGround.fI T.c_NoGround.fd ["self", "part", "at"] (spX2 T.c_NoGround.C (PySem.Str.ofString "part") (PySem.Str.ofString "at")) :=
  T.c_NoGround.F.okX sc_NoGround_init (fun vs H Q E h => by obtain ⟨a, v, v2, rfl, _⟩ := h; rfl) fun cdv A outer s H vs Q E hr h => ⟨_, pss_cons (ps_expr (pe_binit (B := "ValueError") baseX_ValueError rfl T.n_ValueError PyProof.Rows.Boot.«ValueError» T.c_NoGround.vV (pa_cons (pv 0) (pa_cons pe_str pa_nil)))) (pss_cons (ps_xset baseX_ValueError (pv 0) (pv 1)) (pss_one (ps_xset baseX_ValueError (pv 0) (pv 2)))), rdX2 T.c_NoGround.T (T.c_NoGround.no _ (by simp)) (T.c_NoGround.no _ (by simp)) h⟩
def q_is_whole : DTS :=
  (qRet (qAndV (qCB dIsi (qCons (qVar 0) (qCons (qC (.ty "int")) qNil))) (qAndV (qNotV (qCB dIsi (qCons (qVar 0) (qCons (qC (.ty "bool")) qNil)))) (qChain (dCmpI fun i j => decide (i ≤ j)) (dCmpI fun i j => decide (i ≤ j)) (qVar 1) (qVar 0) (qVar 2)))))
theorem dv_is_whole {k : Nat} (T : Tx w K mg) {p : DSp} (hlen : ∀ ds M Q E, p ds M Q E → ds.length = 3)
    (hs : ∀ ds M Q Ed, upSp p ds M Q Ed → q_is_whole (fun x _ M => Ed x M) (retE Q) (startD N_is_whole ds) M) : FnOk P w K mg base (L2.CX P w) (k + 1) T.f_is_whole.f T.f_is_whole.fd ["thing", "low", "high"] (toSp K p) := by
  refine (fn_ok (p := upSp p) T.f_is_whole.F sc_is_whole (fun ds M Q E ⟨Q0, E0, h, _⟩ => hlen ds M Q0 E0 h) fun cdv A outer s H E hr tk hp => ?_).imp fun _ _ _ _ h => imp_up h
  have nd := sc_is_whole.nd
  have hu64 := hr.units
  have hu := Nat.lt_of_le_of_lt (Nat.add_le_add_left (show 1 ≤ 64 by decide) _) hu64
  exact ⟨_, q_is_whole, (qss_one (qs_ret (q_and (q_callB c_isi rfl T.n_isinstance (by decide +kernel) (qa_cons (qv 0) (qa_cons (qe_c (pe_bltn (v := .ty "int") rfl T.n_int (by decide +kernel) rfl) fun _ => rfl) qa_nil))) (q_and (q_not (q_callB c_isi rfl T.n_isinstance (by decide +kernel) (qa_cons (qv 0) (qa_cons (qe_c (pe_bltn (v := .ty "bool") rfl T.n_bool (by decide +kernel) rfl) fun _ => rfl) qa_nil)))) (q_one (q_chain o_le o_le (qv 1) (qv 0) (qv 2))))))), hs⟩
def q_is_name : DTS :=
  (qSeq (qIfS (qOr (qNot (qTB (qCB dIsi (qCons (qVar 0) (qCons (qC (.ty "str")) qNil))))) (qNot (qTB (qChain (dCmpI fun i j => decide (i ≤ j)) (dCmpI fun i j => decide (i ≤ j)) (qC (.int 1)) (qCB dLen (qCons (qVar 0) qNil)) (qC (.int 8))))))
  (qRet (qC (.bl false)))
  qNext)
  (qRet (qCB dAll (qCons (qLc false (qiAny (qVar 0)) (gNameD 1) qYes (qOp (dIn false) (qVar 1) (qC (.str (PySem.Str.ofString "abcdefghijklmnopqrstuvwxyz")))) [1]) qNil))))
theorem dv_is_name {k : Nat} (T : Tx w K mg) {p : DSp} (hlen : ∀ ds M Q E, p ds M Q E → ds.length = 1)
    (hs : ∀ ds M Q Ed, upSp p ds M Q Ed → q_is_name (fun x _ M => Ed x M) (retE Q) (startD N_is_name ds) M) : FnOk P w K mg base (L2.CX P w) (k + 1) T.f_is_name.f T.f_is_name.fd ["thing"] (toSp K p) := by
  refine (fn_ok (p := upSp p) T.f_is_name.F sc_is_name (fun ds M Q E ⟨Q0, E0, h, _⟩ => hlen ds M Q0 E0 h) fun cdv A outer s H E hr tk hp => ?_).imp fun _ _ _ _ h => imp_up h
  have nd := sc_is_name.nd
  have hu64 := hr.units
  have hu := Nat.lt_of_le_of_lt (Nat.add_le_add_left (show 1 ≤ 64 by decide) _) hu64
  exact ⟨_, q_is_name, (qss_cons (qs_if (QW.t (qw_or (qt_not (qt_val (q_callB c_isi rfl T.n_isinstance (by decide +kernel) (qa_cons (qv 0) (qa_cons (qe_c (pe_bltn (v := .ty "str") rfl T.n_str (by decide +kernel) rfl) fun _ => rfl) qa_nil))))) (qw_or1 (qt_not (qt_chain o_le o_le q_int (q_callB c_len rfl T.n_len (by decide +kernel) (qa_cons (qv 0) qa_nil)) (q_globI rfl T.g_MOST_LETTERS))))))
  (qss_one (qs_ret q_bl))
  qss_nil)
  (qss_one (qs_ret (q_callB (c_all rfl) rfl T.n_all (by decide +kernel) (qa_cons (q_lcX (own := [("sign", 1)]) false rfl nd (qi_any (qv 0)) (blkOk_by (own := [("sign", 1)]) (N := N_is_name) (sc := defScope s_is_name) (by decide +kernel)) (fun _ _ _ _ _ => ⟨_, (qg_nm 1 nd)⟩) (fun _ _ _ _ _ => ⟨_, qts_nil⟩) (fun _ _ _ _ _ => ⟨_, (q_cmp (o_in hu) (qv 1) (q_globS rfl T.g_LETTERS))⟩)) qa_nil))))), hs⟩
def q_is_one_of : DTS :=
  (qRet (qAndV (qCB dIsi (qCons (qVar 0) (qCons (qC (.ty "str")) qNil))) (qOp (dIn false) (qVar 0) (qVar 1))))
theorem dv_is_one_of {k : Nat} (T : Tx w K mg) {p : DSp} (hlen : ∀ ds M Q E, p ds M Q E → ds.length = 2)
    (hs : ∀ ds M Q Ed, upSp p ds M Q Ed → q_is_one_of (fun x _ M => Ed x M) (retE Q) (startD N_is_one_of ds) M) : FnOk P w K mg base (L2.CX P w) (k + 1) T.f_is_one_of.f T.f_is_one_of.fd ["thing", "texts"] (toSp K p) := by
  refine (fn_ok (p := upSp p) T.f_is_one_of.F sc_is_one_of (fun ds M Q E ⟨Q0, E0, h, _⟩ => hlen ds M Q0 E0 h) fun cdv A outer s H E hr tk hp => ?_).imp fun _ _ _ _ h => imp_up h
  have nd := sc_is_one_of.nd
  have hu64 := hr.units
  have hu := Nat.lt_of_le_of_lt (Nat.add_le_add_left (show 1 ≤ 64 by decide) _) hu64
  exact ⟨_, q_is_one_of, (qss_one (qs_ret (q_and (q_callB c_isi rfl T.n_isinstance (by decide +kernel) (qa_cons (qv 0) (qa_cons (qe_c (pe_bltn (v := .ty "str") rfl T.n_str (by decide +kernel) rfl) fun _ => rfl) qa_nil))) (q_one (q_cmp (o_in hu) (qv 0) (qv 1)))))), hs⟩
def q_is_tuple_of : DTS :=
  (qRet (qAndV (qCB dIsi (qCons (qVar 0) (qCons (qC (.ty "tuple")) qNil))) (qOp (dEq false) (qCB dLen (qCons (qVar 0) qNil)) (qVar 1))))
theorem dv_is_tuple_of {k : Nat} (T : Tx w K mg) {p : DSp} (hlen : ∀ ds M Q E, p ds M Q E → ds.length = 2)
    (hs : ∀ ds M Q Ed, upSp p ds M Q Ed → q_is_tuple_of (fun x _ M => Ed x M) (retE Q) (startD N_is_tuple_of ds) M) : FnOk P w K mg base (L2.CX P w) (k + 1) T.f_is_tuple_of.f T.f_is_tuple_of.fd ["thing", "many"] (toSp K p) := by
  refine (fn_ok (p := upSp p) T.f_is_tuple_of.F sc_is_tuple_of (fun ds M Q E ⟨Q0, E0, h, _⟩ => hlen ds M Q0 E0 h) fun cdv A outer s H E hr tk hp => ?_).imp fun _ _ _ _ h => imp_up h
  have nd := sc_is_tuple_of.nd
  have hu64 := hr.units
  have hu := Nat.lt_of_le_of_lt (Nat.add_le_add_left (show 1 ≤ 64 by decide) _) hu64
  exact ⟨_, q_is_tuple_of, (qss_one (qs_ret (q_and (q_callB c_isi rfl T.n_isinstance (by decide +kernel) (qa_cons (qv 0) (qa_cons (qe_c (pe_bltn (v := .ty "tuple") rfl T.n_tuple (by decide +kernel) rfl) fun _ => rfl) qa_nil))) (q_one (q_cmp (o_eq hu64) (q_callB c_len rfl T.n_len (by decide +kernel) (qa_cons (qv 0) qa_nil)) (qv 1)))))), hs⟩
def q_gets_holder (sp_gets_holder : DSp) : DTS :=
  (qSeq (qFor (qiAny (qOp dIx (qVar 0) (qVar 2))) (gNameD 4)
  (qIfS (qTB (qOp (dIn true) (qVar 4) (qVar 3)))
  (qSeq (qAsg (qC (.bl true)) (gSubD (qVar 3) (qVar 4)))
  (qIfS (qOr (qTB (qOp (dIn true) (qVar 4) (qVar 1))) (qTB (qCall sp_gets_holder [] (qCons (qVar 0) (qCons (qVar 1) (qCons (qOp dIx (qVar 1) (qVar 4)) (qCons (qVar 3) qNil)))))))
  (qSeq (qAsg (qVar 2) (gSubD (qVar 1) (qVar 4)))
  (qRet (qC (.bl true))))
  qNext))
  qNext))
  (qRet (qC (.bl false))))
theorem dv_gets_holder {k : Nat} (T : Tx w K mg) {sp_gets_holder : DSp} (G_gets_holder : FnOk P w K mg base (L2.CX P w) k T.f_gets_holder.f T.f_gets_holder.fd ["wishes", "held", "wish", "tried"] (toSp K sp_gets_holder)) {p : DSp} (hlen : ∀ ds M Q E, p ds M Q E → ds.length = 4)
    (hs : ∀ ds M Q Ed, upSp p ds M Q Ed → q_gets_holder sp_gets_holder (fun x _ M => Ed x M) (retE Q) (startD N_gets_holder ds) M) : FnOk P w K mg base (L2.CX P w) (k + 1) T.f_gets_holder.f T.f_gets_holder.fd ["wishes", "held", "wish", "tried"] (toSp K p) := by
  refine (fn_ok (p := upSp p) T.f_gets_holder.F sc_gets_holder (fun ds M Q E ⟨Q0, E0, h, _⟩ => hlen ds M Q0 E0 h) fun cdv A outer s H E hr tk hp => ?_).imp fun _ _ _ _ h => imp_up h
  have nd := sc_gets_holder.nd
  have hu64 := hr.units
  have hu := Nat.lt_of_le_of_lt (Nat.add_le_add_left (show 1 ≤ 64 by decide) _) hu64
  exact ⟨_, q_gets_holder sp_gets_holder, (qss_cons (qs_for (ix := [4]) hp rfl (qi_any (q_ix hu (qv 0) (qv 2))) (qg_nm 4 nd)
  (qss_one (qs_if (qt_cmp (o_notin hu) (qv 4) (qv 3))
  (qss_cons (qs_asg (ix := []) q_bl (qg_sub hu (qv 3) (qv 4)))
  (qss_one (qs_if (QW.t (qw_or (qt_cmp (o_notin hu) (qv 4) (qv 1)) (qw_or1 (qt_val (q_call G_gets_holder hr tk rfl T.f_gets_holder.g T.f_gets_holder.F.kp T.f_gets_holder.b .nil (fun _ => rfl) (qa_cons (qv 0) (qa_cons (qv 1) (qa_cons (q_ix hu (qv 1) (qv 4)) (qa_cons (qv 3) qa_nil)))))))))
  (qss_cons (qs_asg (ix := []) (qv 2) (qg_sub hu (qv 1) (qv 4)))
  (qss_one (qs_ret q_bl)))
  qss_nil)))
  qss_nil)))
  (qss_one (qs_ret q_bl))), hs⟩
def q_band_of : DTS :=
  (qSeq (qAsg qDNew (gNameD 3))
  (qSeq (qAsg (qLc true (qiEnum (qCons (qVar 1) qNil)) (gTupD 2 (gConsD (gNameD 5) (gConsD (gNameD 6) gNilD))) (qTB (qOp (dIs false) (qVar 6) (qC .non))) (qVar 5) [5, 6]) (gNameD 4))
  (qSeq (qWhile (qTB (qOp (dEq true) (qVar 4) (qLst false qNil)))
  (qSeq (qAsg (qBM0 "list" mPop (qVar 4)) (gNameD 5))
  (qIfS (qTB (qOp (dIn true) (qVar 5) (qVar 3)))
  (qSeq (qAsg (qC (.bl true)) (gSubD (qVar 3) (qVar 5)))
  (qAug 4 (qLc false (qiAny (qOp dIx (qVar 0) (qVar 5))) (gNameD 6) qYes (qOp dIx (qVar 2) (qVar 6)) [6]) dAug))
  qNext)))
  (qRet (qCB (dSorted false) (qCons (qVar 3) qNil))))))
theorem dv_band_of {k : Nat} (T : Tx w K mg) {p : DSp} (hlen : ∀ ds M Q E, p ds M Q E → ds.length = 3)
    (hs : ∀ ds M Q Ed, upSp p ds M Q Ed → q_band_of (fun x _ M => Ed x M) (retE Q) (startD N_band_of ds) M) : FnOk P w K mg base (L2.CX P w) (k + 1) T.f_band_of.f T.f_band_of.fd ["wishes", "pairs", "held"] (toSp K p) := by
  refine (fn_ok (p := upSp p) T.f_band_of.F sc_band_of (fun ds M Q E ⟨Q0, E0, h, _⟩ => hlen ds M Q0 E0 h) fun cdv A outer s H E hr tk hp => ?_).imp fun _ _ _ _ h => imp_up h
  have nd := sc_band_of.nd
  have hu64 := hr.units
  have hu := Nat.lt_of_le_of_lt (Nat.add_le_add_left (show 1 ≤ 64 by decide) _) hu64
  exact ⟨_, q_band_of, (qss_cons (qs_setN 3 nd q_dnew)
  (qss_cons (qs_setLcX (own := [("wish", 5), ("holder", 6)]) true 4 rfl nd (qi_enum rfl T.n_enumerate (qa_cons (qv 1) qa_nil)) (blkOk_by (own := [("wish", 5), ("holder", 6)]) (N := N_band_of) (sc := defScope s_band_of) (by decide +kernel)) (fun _ _ _ _ _ => ⟨_, (qg_tup rfl (qgs_cons (qg_nm 5 nd) (qgs_cons (qg_nm 6 nd) qgs_nil)))⟩) (fun _ _ _ _ _ => ⟨_, (qts_one (qt_cmp o_is (qv 6) q_non))⟩) (fun _ _ _ _ _ => ⟨_, (qv 5)⟩))
  (qss_cons (qs_while hp (qt_cmp (o_ne hu64) (qv 4) (q_lst false qa_nil))
  (qss_cons (qs_setN 5 nd (q_bm0 PySem.F.plainAttrs_list PySem.F.slot_list_pop PySem.F.type_list_pop m_pop (qv 4)))
  (qss_one (qs_if (qt_cmp (o_notin hu) (qv 5) (qv 3))
  (qss_cons (qs_asg (ix := []) q_bl (qg_sub hu (qv 3) (qv 5)))
  (qss_one (qs_augN 4 nd (q_lcX (own := [("holder", 6)]) false rfl nd (qi_any (q_ix hu (qv 0) (qv 5))) (blkOk_by (own := [("holder", 6)]) (N := N_band_of) (sc := defScope s_band_of) (by decide +kernel)) (fun _ _ _ _ _ => ⟨_, (qg_nm 6 nd)⟩) (fun _ _ _ _ _ => ⟨_, qts_nil⟩) (fun _ _ _ _ _ => ⟨_, (q_ix hu (qv 2) (qv 6))⟩)))))
  qss_nil))))
  (qss_one (qs_ret (q_callB (c_sorted false rfl) rfl T.n_sorted (by decide +kernel) (qa_cons (qv 3) qa_nil))))))), hs⟩
def q_paired (sp_band_of : DSp) (sp_gets_holder : DSp) : DTS :=
  (qSeq (qAsg qDNew (gNameD 1))
  (qSeq (qFor (qiRng1 (qCons (qCB dLen (qCons (qVar 0) qNil)) qNil)) (gNameD 2)
  (qDrop (qCall sp_gets_holder [] (qCons (qVar 0) (qCons (qVar 1) (qCons (qVar 2) (qCons qDNew qNil)))))))
  (qSeq (qAsg (qLc true (qiAny (qVar 0)) (gNameD 2) qYes (qC .non) [2]) (gNameD 3))
  (qSeq (qLock (selN 1) (qFor (qiItems (qVar 1)) (gTupD 2 (gConsD (gNameD 4) (gConsD (gNameD 2) gNilD)))
  (qAsg (qVar 4) (gSubD (qVar 3) (qVar 2)))))
  (qFrz 3 (qRet (qTup (qCons (qVar 3) (qCons (qCall sp_band_of [] (qCons (qVar 0) (qCons (qVar 3) (qCons (qVar 1) qNil)))) qNil)))))))))
theorem dv_paired {k : Nat} (T : Tx w K mg) {sp_band_of : DSp} (G_band_of : FnOk P w K mg base (L2.CX P w) k T.f_band_of.f T.f_band_of.fd ["wishes", "pairs", "held"] (toSp K sp_band_of)) {sp_gets_holder : DSp} (G_gets_holder : FnOk P w K mg base (L2.CX P w) k T.f_gets_holder.f T.f_gets_holder.fd ["wishes", "held", "wish", "tried"] (toSp K sp_gets_holder)) {p : DSp} (hlen : ∀ ds M Q E, p ds M Q E → ds.length = 1)
    (hs : ∀ ds M Q Ed, upSp p ds M Q Ed → q_paired sp_band_of sp_gets_holder (fun x _ M => Ed x M) (retE Q) (startD N_paired ds) M) : FnOk P w K mg base (L2.CX P w) (k + 1) T.f_paired.f T.f_paired.fd ["wishes"] (toSp K p) := by
  refine (fn_ok (p := upSp p) T.f_paired.F sc_paired (fun ds M Q E ⟨Q0, E0, h, _⟩ => hlen ds M Q0 E0 h) fun cdv A outer s H E hr tk hp => ?_).imp fun _ _ _ _ h => imp_up h
  have nd := sc_paired.nd
  have hu64 := hr.units
  have hu := Nat.lt_of_le_of_lt (Nat.add_le_add_left (show 1 ≤ 64 by decide) _) hu64
  exact ⟨_, q_paired sp_band_of sp_gets_holder, (qss_cons (qs_setN 1 nd q_dnew)
  (qss_cons (qs_for (ix := [2]) hp rfl (qi_range1 rfl T.n_range (qa_cons (q_callB c_len rfl T.n_len (by decide +kernel) (qa_cons (qv 0) qa_nil)) qa_nil)) (qg_nm 2 nd)
  (qss_one (qs_expr (q_call G_gets_holder hr tk rfl T.f_gets_holder.g T.f_gets_holder.F.kp T.f_gets_holder.b .nil (fun _ => rfl) (qa_cons (qv 0) (qa_cons (qv 1) (qa_cons (qv 2) (qa_cons q_dnew qa_nil))))))))
  (qss_cons (qs_setLcX (own := [("wish", 2)]) true 3 rfl nd (qi_any (qv 0)) (blkOk_by (own := [("wish", 2)]) (N := N_paired) (sc := defScope s_paired) (by decide +kernel)) (fun _ _ _ _ _ => ⟨_, (qg_nm 2 nd)⟩) (fun _ _ _ _ _ => ⟨_, qts_nil⟩) (fun _ _ _ _ _ => ⟨_, q_non⟩))
  (qss_cons (qs_lock (sel := (selN 1)) (qs_for (ix := [4, 2]) hp rfl (qi_items (qv 1)) (qg_tup rfl (qgs_cons (qg_nm 4 nd) (qgs_cons (qg_nm 2 nd) qgs_nil)))
  (qss_one (qs_asg (ix := []) (qv 4) (qg_sub hu (qv 3) (qv 2))))))
  (qss_one (qs_frz 3 (qs_ret (q_tup (qa_cons (qv 3) (qa_cons (q_call G_band_of hr tk rfl T.f_band_of.g T.f_band_of.F.kp T.f_band_of.b .nil (fun _ => rfl) (qa_cons (qv 0) (qa_cons (qv 3) (qa_cons (qv 1) qa_nil)))) qa_nil)))))))))), hs⟩
def q_is_on_watch : DTS :=
  (qRet (qOp (dCmpI fun i j => decide (i < j)) (qOp (dInt (fun _ j => 0 < j) fun i j => i % j) (qOp (dAdd false) (qVar 1) (qOp dIx (qVar 0) (qC (.int 2)))) (qC (.int 4))) (qC (.int 2))))
theorem dv_is_on_watch {k : Nat} (T : Tx w K mg) {p : DSp} (hlen : ∀ ds M Q E, p ds M Q E → ds.length = 2)
    (hs : ∀ ds M Q Ed, upSp p ds M Q Ed → q_is_on_watch (fun x _ M => Ed x M) (retE Q) (startD N_is_on_watch ds) M) : FnOk P w K mg base (L2.CX P w) (k + 1) T.f_is_on_watch.f T.f_is_on_watch.fd ["hand", "day"] (toSp K p) := by
  refine (fn_ok (p := upSp p) T.f_is_on_watch.F sc_is_on_watch (fun ds M Q E ⟨Q0, E0, h, _⟩ => hlen ds M Q0 E0 h) fun cdv A outer s H E hr tk hp => ?_).imp fun _ _ _ _ h => imp_up h
  have nd := sc_is_on_watch.nd
  have hu64 := hr.units
  have hu := Nat.lt_of_le_of_lt (Nat.add_le_add_left (show 1 ≤ 64 by decide) _) hu64
  exact ⟨_, q_is_on_watch, (qss_one (qs_ret (q_cmp o_lt (q_op o_mod (q_op (o_add false) (qv 1) (q_ix hu (qv 0) q_int)) q_int) q_int))), hs⟩
def q_can_drive : DTS :=
  (qRet (qOp (dCmpI fun i j => decide (j ≤ i)) (qBest false (qCons (qLc false (qiAny (qOp dIx (qVar 0) (qC (.int 3)))) (gTupD 2 (gConsD (gNameD 2) (gConsD (gNameD 3) gNilD))) (qTB (qOp (dEq false) (qVar 2) (qC (.str (PySem.Str.ofString "drive"))))) (qVar 3) [2, 3]) qNil) (qCons (qUn dNeg (qC (.int 1))) qNil)) (qVar 1)))
theorem dv_can_drive {k : Nat} (T : Tx w K mg) {p : DSp} (hlen : ∀ ds M Q E, p ds M Q E → ds.length = 2)
    (hs : ∀ ds M Q Ed, upSp p ds M Q Ed → q_can_drive (fun x _ M => Ed x M) (retE Q) (startD N_can_drive ds) M) : FnOk P w K mg base (L2.CX P w) (k + 1) T.f_can_drive.f T.f_can_drive.fd ["hand", "day"] (toSp K p) := by
  refine (fn_ok (p := upSp p) T.f_can_drive.F sc_can_drive (fun ds M Q E ⟨Q0, E0, h, _⟩ => hlen ds M Q0 E0 h) fun cdv A outer s H E hr tk hp => ?_).imp fun _ _ _ _ h => imp_up h
  have nd := sc_can_drive.nd
  have hu64 := hr.units
  have hu := Nat.lt_of_le_of_lt (Nat.add_le_add_left (show 1 ≤ 64 by decide) _) hu64
  exact ⟨_, q_can_drive, (qss_one (qs_ret (q_cmp o_ge (q_maxD hr rfl T.n_max (qa_cons (q_lcX (own := [("skill", 2), ("last", 3)]) false rfl nd (qi_any (q_ix hu (qv 0) q_int)) (blkOk_by (own := [("skill", 2), ("last", 3)]) (N := N_can_drive) (sc := defScope s_can_drive) (by decide +kernel)) (fun _ _ _ _ _ => ⟨_, (qg_tup rfl (qgs_cons (qg_nm 2 nd) (qgs_cons (qg_nm 3 nd) qgs_nil)))⟩) (fun _ _ _ _ _ => ⟨_, (qts_one (qt_cmp (o_eq hu64) (qv 2) q_str))⟩) (fun _ _ _ _ _ => ⟨_, (qv 3)⟩)) qa_nil) (qk_cons (q_neg q_int) qk_nil)) (qv 1)))), hs⟩
def q_drivers_for (sp_can_drive : DSp) (sp_is_on_watch : DSp) : DTS :=
  (qSeq (qAsg (qLst true qNil) (gNameD 3))
  (qSeq (qFor (qiEnum0 (qCons (qVar 1) qNil)) (gTupD 2 (gConsD (gNameD 4) (gConsD (gNameD 5) gNilD)))
  (qIfS (qAnd (qTB (qOp (dEq false) (qOp dIx (qVar 5) (qC (.int 1))) (qOp dIx (qVar 0) (qC (.int 2))))) (qAnd (qTB (qCall sp_is_on_watch [] (qCons (qVar 5) (qCons (qVar 2) qNil)))) (qTB (qCall sp_can_drive [] (qCons (qVar 5) (qCons (qVar 2) qNil))))))
  (qDrop (qBM "list" mApp (qVar 3) (qCons (qVar 4) qNil)))
  qNext))
  (qFrz 3 (qRet (qVar 3)))))
theorem dv_drivers_for {k : Nat} (T : Tx w K mg) {sp_can_drive : DSp} (G_can_drive : FnOk P w K mg base (L2.CX P w) k T.f_can_drive.f T.f_can_drive.fd ["hand", "day"] (toSp K sp_can_drive)) {sp_is_on_watch : DSp} (G_is_on_watch : FnOk P w K mg base (L2.CX P w) k T.f_is_on_watch.f T.f_is_on_watch.fd ["hand", "day"] (toSp K sp_is_on_watch)) {p : DSp} (hlen : ∀ ds M Q E, p ds M Q E → ds.length = 3)
    (hs : ∀ ds M Q Ed, upSp p ds M Q Ed → q_drivers_for sp_can_drive sp_is_on_watch (fun x _ M => Ed x M) (retE Q) (startD N_drivers_for ds) M) : FnOk P w K mg base (L2.CX P w) (k + 1) T.f_drivers_for.f T.f_drivers_for.fd ["engine", "hands", "day"] (toSp K p) := by
  refine (fn_ok (p := upSp p) T.f_drivers_for.F sc_drivers_for (fun ds M Q E ⟨Q0, E0, h, _⟩ => hlen ds M Q0 E0 h) fun cdv A outer s H E hr tk hp => ?_).imp fun _ _ _ _ h => imp_up h
  have nd := sc_drivers_for.nd
  have hu64 := hr.units
  have hu := Nat.lt_of_le_of_lt (Nat.add_le_add_left (show 1 ≤ 64 by decide) _) hu64
  exact ⟨_, q_drivers_for sp_can_drive sp_is_on_watch, (qss_cons (qs_setN 3 nd (q_lst true qa_nil))
  (qss_cons (qs_for (ix := [4, 5]) hp rfl (qi_enum0 rfl T.n_enumerate (qa_cons (qv 1) qa_nil)) (qg_tup rfl (qgs_cons (qg_nm 4 nd) (qgs_cons (qg_nm 5 nd) qgs_nil)))
  (qss_one (qs_if (QW.t (qw_and (qt_cmp (o_eq hu64) (q_ix hu (qv 5) q_int) (q_ix hu (qv 0) q_int)) (qw_and (qt_val (q_call G_is_on_watch hr tk rfl T.f_is_on_watch.g T.f_is_on_watch.F.kp T.f_is_on_watch.b .nil (fun _ => rfl) (qa_cons (qv 5) (qa_cons (qv 2) qa_nil)))) (qw_and1 (qt_val (q_call G_can_drive hr tk rfl T.f_can_drive.g T.f_can_drive.F.kp T.f_can_drive.b .nil (fun _ => rfl) (qa_cons (qv 5) (qa_cons (qv 2) qa_nil))))))))
  (qss_one (qs_expr (q_bm PySem.F.plainAttrs_list PySem.F.slot_list_append PySem.F.type_list_append m_append (qv 3) (qa_cons (qv 4) qa_nil))))
  qss_nil)))
  (qss_one (qs_frz 3 (qs_ret (qv 3)))))), hs⟩
def q_crews (sp_drivers_for : DSp) (sp_is_on_watch : DSp) (sp_paired : DSp) : DTS :=
  (qSeq (qAsg (qOp dIx (qCall sp_paired [] (qCons (qLc false (qiAny (qVar 0)) (gNameD 6) qYes (qCall sp_drivers_for [] (qCons (qVar 6) (qCons (qVar 1) (qCons (qVar 2) qNil)))) [6]) qNil)) (qC (.int 0))) (gNameD 3))
  (qSeq (qAsg (qCB dDict (qCons (qLc false (qiAny (qVar 3)) (gNameD 7) (qTB (qOp (dIs true) (qVar 7) (qC .non))) (qTup (qCons (qOp dIx (qOp dIx (qVar 1) (qVar 7)) (qC (.int 0))) (qCons (qC (.bl true)) qNil))) [7]) qNil)) (gNameD 4))
  (qSeq (qAsg (qLst true qNil) (gNameD 5))
  (qSeq (qFor (qiZipS (qCons (qVar 0) (qCons (qVar 3) qNil)) (qCons (qC (.bl true)) qNil)) (gTupD 2 (gConsD (gNameD 6) (gConsD (gNameD 7) gNilD)))
  (qSeq (qPar 8 9 (qCons (qC .non) (qCons (qLst true qNil) qNil)))
  (qSeq (qIfS (qTB (qOp (dIs true) (qVar 7) (qC .non)))
  (qSeq (qAsg (qOp dIx (qOp dIx (qVar 1) (qVar 7)) (qC (.int 0))) (gNameD 8))
  (qSeq (qAsg (qLc false (qiAny (qVar 1)) (gNameD 12) (qAnd (qTB (qOp (dEq false) (qOp dIx (qVar 12) (qC (.int 1))) (qOp dIx (qVar 6) (qC (.int 2))))) (qTB (qCall sp_is_on_watch [] (qCons (qVar 12) (qCons (qVar 2) qNil))))) (qVar 12) [12]) (gNameD 10))
  (qSeq (qAsg (qCB (dSortT false) (qCons (qLc false (qiAny (qVar 10)) (gNameD 12) (qTB (qOp (dIn true) (qOp dIx (qVar 12) (qC (.int 0))) (qVar 4))) (qOp dIx (qVar 12) (qC (.int 0))) [12]) qNil)) (gNameD 11))
  (qSeq (qAsg (qSl true (qVar 11) qNoPart (qPart (qOp (dInt0 fun i j => i - j) (qOp dIx (qVar 6) (qC (.int 3))) (qC (.int 1))))) (gNameD 9))
  (qDrop (qBMD mUpdD (qVar 4) (qCons (qFrzE (qCB dDict (qCons (qLc false (qiAny (qVar 9)) (gNameD 13) qYes (qTup (qCons (qVar 13) (qCons (qC (.bl true)) qNil))) [13]) qNil))) qNil)))))))
  qNext)
  (qDrop (qBM "list" mApp (qVar 5) (qCons (qTup (qCons (qOp dIx (qVar 6) (qC (.int 0))) (qCons (qVar 8) (qCons (qVar 9) qNil)))) qNil))))))
  (qRet (qVar 5))))))
theorem dv_crews {k : Nat} (T : Tx w K mg) {sp_drivers_for : DSp} (G_drivers_for : FnOk P w K mg base (L2.CX P w) k T.f_drivers_for.f T.f_drivers_for.fd ["engine", "hands", "day"] (toSp K sp_drivers_for)) {sp_is_on_watch : DSp} (G_is_on_watch : FnOk P w K mg base (L2.CX P w) k T.f_is_on_watch.f T.f_is_on_watch.fd ["hand", "day"] (toSp K sp_is_on_watch)) {sp_paired : DSp} (G_paired : FnOk P w K mg base (L2.CX P w) k T.f_paired.f T.f_paired.fd ["wishes"] (toSp K sp_paired)) {p : DSp} (hlen : ∀ ds M Q E, p ds M Q E → ds.length = 3)
    (hs : ∀ ds M Q Ed, upSp p ds M Q Ed → q_crews sp_drivers_for sp_is_on_watch sp_paired (fun x _ M => Ed x M) (retE Q) (startD N_crews ds) M) : FnOk P w K mg base (L2.CX P w) (k + 1) T.f_crews.f T.f_crews.fd ["engines", "hands", "day"] (toSp K p) := by
  refine (fn_ok (p := upSp p) T.f_crews.F sc_crews (fun ds M Q E ⟨Q0, E0, h, _⟩ => hlen ds M Q0 E0 h) fun cdv A outer s H E hr tk hp => ?_).imp fun _ _ _ _ h => imp_up h
  have nd := sc_crews.nd
  have hu64 := hr.units
  have hu := Nat.lt_of_le_of_lt (Nat.add_le_add_left (show 1 ≤ 64 by decide) _) hu64
  exact ⟨_, q_crews sp_drivers_for sp_is_on_watch sp_paired, (qss_cons (qs_setN 3 nd (q_ix hu (q_call G_paired hr tk rfl T.f_paired.g T.f_paired.F.kp T.f_paired.b .nil (fun _ => rfl) (qa_cons (q_lcX (own := [("engine", 6)]) false rfl nd (qi_any (qv 0)) (blkOk_by (own := [("engine", 6)]) (N := N_crews) (sc := defScope s_crews) (by decide +kernel)) (fun _ _ _ _ _ => ⟨_, (qg_nm 6 nd)⟩) (fun _ _ _ _ _ => ⟨_, qts_nil⟩) (fun _ _ _ _ _ => ⟨_, (q_call G_drivers_for hr takes0 rfl T.f_drivers_for.g T.f_drivers_for.F.kp T.f_drivers_for.b .nil (fun _ => rfl) (qa_cons (qv 6) (qa_cons (qv 1) (qa_cons (qv 2) qa_nil))))⟩)) qa_nil)) q_int))
  (qss_cons (qs_setN 4 nd (q_callTy (c_dict rfl) rfl T.n_dict (by decide +kernel) (qa_cons (q_lcX (own := [("holder", 7)]) false rfl nd (qi_any (qv 3)) (blkOk_by (own := [("holder", 7)]) (N := N_crews) (sc := defScope s_crews) (by decide +kernel)) (fun _ _ _ _ _ => ⟨_, (qg_nm 7 nd)⟩) (fun _ _ _ _ _ => ⟨_, (qts_one (qt_cmp o_isnot (qv 7) q_non))⟩) (fun _ _ _ _ _ => ⟨_, (q_tup (qa_cons (q_ix hu (q_ix hu (qv 1) (qv 7)) q_int) (qa_cons q_bl qa_nil)))⟩)) qa_nil)))
  (qss_cons (qs_setN 5 nd (q_lst true qa_nil))
  (qss_cons (qs_for (ix := [6, 7]) hp rfl (qi_zipS rfl T.n_zip (qa_cons (qv 0) (qa_cons (qv 3) qa_nil)) (qk_cons q_bl qk_nil)) (qg_tup rfl (qgs_cons (qg_nm 6 nd) (qgs_cons (qg_nm 7 nd) qgs_nil)))
  (qss_cons (qs_parN 8 9 rfl nd (qa_cons q_non (qa_cons (q_lst true qa_nil) qa_nil)))
  (qss_cons (qs_if (qt_cmp o_isnot (qv 7) q_non)
  (qss_cons (qs_setN 8 nd (q_ix hu (q_ix hu (qv 1) (qv 7)) q_int))
  (qss_cons (qs_setLcX (own := [("hand", 12)]) false 10 rfl nd (qi_any (qv 1)) (blkOk_by (own := [("hand", 12)]) (N := N_crews) (sc := defScope s_crews) (by decide +kernel)) (fun _ _ _ _ _ => ⟨_, (qg_nm 12 nd)⟩) (fun _ _ _ _ _ => ⟨_, (qts_one (QW.t (qw_and (qt_cmp (o_eq hu64) (q_ix hu (qv 12) q_int) (q_ix hu (qv 6) q_int)) (qw_and1 (qt_val (q_call G_is_on_watch hr takes0 rfl T.f_is_on_watch.g T.f_is_on_watch.F.kp T.f_is_on_watch.b .nil (fun _ => rfl) (qa_cons (qv 12) (qa_cons (qv 2) qa_nil))))))))⟩) (fun _ _ _ _ _ => ⟨_, (qv 12)⟩))
  (qss_cons (qs_setN 11 nd (q_callB (c_sortT false rfl) rfl T.n_sorted (by decide +kernel) (qa_cons (q_lcX (own := [("hand", 12)]) false rfl nd (qi_any (qv 10)) (blkOk_by (own := [("hand", 12)]) (N := N_crews) (sc := defScope s_crews) (by decide +kernel)) (fun _ _ _ _ _ => ⟨_, (qg_nm 12 nd)⟩) (fun _ _ _ _ _ => ⟨_, (qts_one (qt_cmp (o_notin hu) (q_ix hu (qv 12) q_int) (qv 4)))⟩) (fun _ _ _ _ _ => ⟨_, (q_ix hu (qv 12) q_int)⟩)) qa_nil)))
  (qss_cons (qs_setN 9 nd (q_slice true (qv 11) qo_none (qo_some (q_op o_sub (q_ix hu (qv 6) q_int) q_int))))
  (qss_one (qs_expr (q_bmD PySem.F.plainAttrs_dict PySem.F.slot_dict_update PySem.F.type_dict_update m_updateD (qv 4) (qa_cons (q_frzE (q_callTy (c_dict rfl) rfl T.n_dict (by decide +kernel) (qa_cons (q_lcX (own := [("name", 13)]) false rfl nd (qi_any (qv 9)) (blkOk_by (own := [("name", 13)]) (N := N_crews) (sc := defScope s_crews) (by decide +kernel)) (fun _ _ _ _ _ => ⟨_, (qg_nm 13 nd)⟩) (fun _ _ _ _ _ => ⟨_, qts_nil⟩) (fun _ _ _ _ _ => ⟨_, (q_tup (qa_cons (qv 13) (qa_cons q_bl qa_nil)))⟩)) qa_nil))) qa_nil))))))))
  qss_nil)
  (qss_one (qs_expr (q_bm PySem.F.plainAttrs_list PySem.F.slot_list_append PySem.F.type_list_append m_append (qv 5) (qa_cons (q_tup (qa_cons (q_ix hu (qv 6) q_int) (qa_cons (qv 8) (qa_cons (qv 9) qa_nil)))) qa_nil)))))))
  (qss_one (qs_ret (qv 5))))))), hs⟩
def q_is_place (sp_is_name : DSp) (sp_is_tuple_of : DSp) (sp_is_whole : DSp) : DTS :=
  (qRet (qAndV (qCall sp_is_tuple_of [] (qCons (qVar 0) (qCons (qC (.int 2)) qNil))) (qAndV (qCall sp_is_name [] (qCons (qOp dIx (qVar 0) (qC (.int 0))) qNil)) (qCall sp_is_whole [] (qCons (qOp dIx (qVar 0) (qC (.int 1))) (qCons (qC (.int 1)) (qCons (qC (.int 4)) qNil)))))))
theorem dv_is_place {k : Nat} (T : Tx w K mg) {sp_is_name : DSp} (G_is_name : FnOk P w K mg base (L2.CX P w) k T.f_is_name.f T.f_is_name.fd ["thing"] (toSp K sp_is_name)) {sp_is_tuple_of : DSp} (G_is_tuple_of : FnOk P w K mg base (L2.CX P w) k T.f_is_tuple_of.f T.f_is_tuple_of.fd ["thing", "many"] (toSp K sp_is_tuple_of)) {sp_is_whole : DSp} (G_is_whole : FnOk P w K mg base (L2.CX P w) k T.f_is_whole.f T.f_is_whole.fd ["thing", "low", "high"] (toSp K sp_is_whole)) {p : DSp} (hlen : ∀ ds M Q E, p ds M Q E → ds.length = 1)
    (hs : ∀ ds M Q Ed, upSp p ds M Q Ed → q_is_place sp_is_name sp_is_tuple_of sp_is_whole (fun x _ M => Ed x M) (retE Q) (startD N_is_place ds) M) : FnOk P w K mg base (L2.CX P w) (k + 1) T.f_is_place.f T.f_is_place.fd ["thing"] (toSp K p) := by
  refine (fn_ok (p := upSp p) T.f_is_place.F sc_is_place (fun ds M Q E ⟨Q0, E0, h, _⟩ => hlen ds M Q0 E0 h) fun cdv A outer s H E hr tk hp => ?_).imp fun _ _ _ _ h => imp_up h
  have nd := sc_is_place.nd
  have hu64 := hr.units
  have hu := Nat.lt_of_le_of_lt (Nat.add_le_add_left (show 1 ≤ 64 by decide) _) hu64
  exact ⟨_, q_is_place sp_is_name sp_is_tuple_of sp_is_whole, (qss_one (qs_ret (q_and (q_call G_is_tuple_of hr tk rfl T.f_is_tuple_of.g T.f_is_tuple_of.F.kp T.f_is_tuple_of.b .nil (fun _ => rfl) (qa_cons (qv 0) (qa_cons q_int qa_nil))) (q_and (q_call G_is_name hr tk rfl T.f_is_name.g T.f_is_name.F.kp T.f_is_name.b .nil (fun _ => rfl) (qa_cons (q_ix hu (qv 0) q_int) qa_nil)) (q_one (q_call G_is_whole hr tk rfl T.f_is_whole.g T.f_is_whole.F.kp T.f_is_whole.b .nil (fun _ => rfl) (qa_cons (q_ix hu (qv 0) q_int) (qa_cons q_int (qa_cons (q_globI rfl T.g_MOST_RISK) qa_nil))))))))), hs⟩
def q_places_fault (sp_is_place : DSp) : DTS :=
  (qSeq (qIfS (qOr (qNot (qTB (qCB dIsi (qCons (qVar 0) (qCons (qC (.ty "tuple")) qNil))))) (qNot (qTB (qChain (dCmpI fun i j => decide (i ≤ j)) (dCmpI fun i j => decide (i ≤ j)) (qC (.int 1)) (qCB dLen (qCons (qVar 0) qNil)) (qC (.int 40))))))
  (qRet (qUn dNeg (qC (.int 1))))
  qNext)
  (qSeq (qAsg qDNew (gNameD 1))
  (qSeq (qFor (qiEnum0 (qCons (qVar 0) qNil)) (gTupD 2 (gConsD (gNameD 2) (gConsD (gNameD 3) gNilD)))
  (qSeq (qIfS (qOr (qNot (qTB (qCall sp_is_place [] (qCons (qVar 3) qNil)))) (qTB (qOp (dIn false) (qOp dIx (qVar 3) (qC (.int 0))) (qVar 1))))
  (qRet (qVar 2))
  qNext)
  (qAsg (qC (.bl true)) (gSubD (qVar 1) (qOp dIx (qVar 3) (qC (.int 0)))))))
  (qRet (qC .non)))))
theorem dv_places_fault {k : Nat} (T : Tx w K mg) {sp_is_place : DSp} (G_is_place : FnOk P w K mg base (L2.CX P w) k T.f_is_place.f T.f_is_place.fd ["thing"] (toSp K sp_is_place)) {p : DSp} (hlen : ∀ ds M Q E, p ds M Q E → ds.length = 1)
    (hs : ∀ ds M Q Ed, upSp p ds M Q Ed → q_places_fault sp_is_place (fun x _ M => Ed x M) (retE Q) (startD N_places_fault ds) M) : FnOk P w K mg base (L2.CX P w) (k + 1) T.f_places_fault.f T.f_places_fault.fd ["thing"] (toSp K p) := by
  refine (fn_ok (p := upSp p) T.f_places_fault.F sc_places_fault (fun ds M Q E ⟨Q0, E0, h, _⟩ => hlen ds M Q0 E0 h) fun cdv A outer s H E hr tk hp => ?_).imp fun _ _ _ _ h => imp_up h
  have nd := sc_places_fault.nd
  have hu64 := hr.units
  have hu := Nat.lt_of_le_of_lt (Nat.add_le_add_left (show 1 ≤ 64 by decide) _) hu64
  exact ⟨_, q_places_fault sp_is_place, (qss_cons (qs_if (QW.t (qw_or (qt_not (qt_val (q_callB c_isi rfl T.n_isinstance (by decide +kernel) (qa_cons (qv 0) (qa_cons (qe_c (pe_bltn (v := .ty "tuple") rfl T.n_tuple (by decide +kernel) rfl) fun _ => rfl) qa_nil))))) (qw_or1 (qt_not (qt_chain o_le o_le q_int (q_callB c_len rfl T.n_len (by decide +kernel) (qa_cons (qv 0) qa_nil)) (q_globI rfl T.g_MOST_PLACES))))))
  (qss_one (qs_ret (q_neg q_int)))
  qss_nil)
  (qss_cons (qs_setN 1 nd q_dnew)
  (qss_cons (qs_for (ix := [2, 3]) hp rfl (qi_enum0 rfl T.n_enumerate (qa_cons (qv 0) qa_nil)) (qg_tup rfl (qgs_cons (qg_nm 2 nd) (qgs_cons (qg_nm 3 nd) qgs_nil)))
  (qss_cons (qs_if (QW.t (qw_or (qt_not (qt_val (q_call G_is_place hr tk rfl T.f_is_place.g T.f_is_place.F.kp T.f_is_place.b .nil (fun _ => rfl) (qa_cons (qv 3) qa_nil)))) (qw_or1 (qt_cmp (o_in hu) (q_ix hu (qv 3) q_int) (qv 1)))))
  (qss_one (qs_ret (qv 2)))
  qss_nil)
  (qss_one (qs_asg (ix := []) q_bl (qg_sub hu (qv 1) (q_ix hu (qv 3) q_int))))))
  (qss_one (qs_ret q_non))))), hs⟩
def q_roads_fault (sp_is_road : DSp) : DTS :=
  (qSeq (qIfS (qOr (qNot (qTB (qCB dIsi (qCons (qVar 1) (qCons (qC (.ty "tuple")) qNil))))) (qTB (qOp (dCmpI fun i j => decide (j < i)) (qCB dLen (qCons (qVar 1) qNil)) (qC (.int 80)))))
  (qRet (qUn dNeg (qC (.int 1))))
  qNext)
  (qSeq (qAsg qDNew (gNameD 2))
  (qSeq (qFor (qiEnum0 (qCons (qVar 1) qNil)) (gTupD 2 (gConsD (gNameD 3) (gConsD (gNameD 4) gNilD)))
  (qSeq (qIfS (qOr (qNot (qTB (qCall sp_is_road [] (qCons (qVar 0) (qCons (qVar 4) qNil))))) (qTB (qOp (dIn false) (qCB dTuple (qCons (qCB (dSorted false) (qCons (qSl false (qVar 4) qNoPart (qPart (qC (.int 2)))) qNil)) qNil)) (qVar 2))))
  (qRet (qVar 3))
  qNext)
  (qAsg (qC (.bl true)) (gSubD (qVar 2) (qCB dTuple (qCons (qCB (dSorted false) (qCons (qSl false (qVar 4) qNoPart (qPart (qC (.int 2)))) qNil)) qNil))))))
  (qRet (qC .non)))))
theorem dv_roads_fault {k : Nat} (T : Tx w K mg) {sp_is_road : DSp} (G_is_road : FnOk P w K mg base (L2.CX P w) k T.f_is_road.f T.f_is_road.fd ["names", "thing"] (toSp K sp_is_road)) {p : DSp} (hlen : ∀ ds M Q E, p ds M Q E → ds.length = 2)
    (hs : ∀ ds M Q Ed, upSp p ds M Q Ed → q_roads_fault sp_is_road (fun x _ M => Ed x M) (retE Q) (startD N_roads_fault ds) M) : FnOk P w K mg base (L2.CX P w) (k + 1) T.f_roads_fault.f T.f_roads_fault.fd ["names", "thing"] (toSp K p) := by
  refine (fn_ok (p := upSp p) T.f_roads_fault.F sc_roads_fault (fun ds M Q E ⟨Q0, E0, h, _⟩ => hlen ds M Q0 E0 h) fun cdv A outer s H E hr tk hp => ?_).imp fun _ _ _ _ h => imp_up h
  have nd := sc_roads_fault.nd
  have hu64 := hr.units
  have hu := Nat.lt_of_le_of_lt (Nat.add_le_add_left (show 1 ≤ 64 by decide) _) hu64
  exact ⟨_, q_roads_fault sp_is_road, (qss_cons (qs_if (QW.t (qw_or (qt_not (qt_val (q_callB c_isi rfl T.n_isinstance (by decide +kernel) (qa_cons (qv 1) (qa_cons (qe_c (pe_bltn (v := .ty "tuple") rfl T.n_tuple (by decide +kernel) rfl) fun _ => rfl) qa_nil))))) (qw_or1 (qt_cmp o_gt (q_callB c_len rfl T.n_len (by decide +kernel) (qa_cons (qv 1) qa_nil)) (q_globI rfl T.g_MOST_ROADS)))))
  (qss_one (qs_ret (q_neg q_int)))
  qss_nil)
  (qss_cons (qs_setN 2 nd q_dnew)
  (qss_cons (qs_for (ix := [3, 4]) hp rfl (qi_enum0 rfl T.n_enumerate (qa_cons (qv 1) qa_nil)) (qg_tup rfl (qgs_cons (qg_nm 3 nd) (qgs_cons (qg_nm 4 nd) qgs_nil)))
  (qss_cons (qs_if (QW.t (qw_or (qt_not (qt_val (q_call G_is_road hr tk rfl T.f_is_road.g T.f_is_road.F.kp T.f_is_road.b .nil (fun _ => rfl) (qa_cons (qv 0) (qa_cons (qv 4) qa_nil))))) (qw_or1 (qt_cmp (o_in hu) (q_callTy c_tuple rfl T.n_tuple (by decide +kernel) (qa_cons (q_callB (c_sorted false rfl) rfl T.n_sorted (by decide +kernel) (qa_cons (q_slice false (qv 4) qo_none (qo_some q_int)) qa_nil)) qa_nil)) (qv 2)))))
  (qss_one (qs_ret (qv 3)))
  qss_nil)
  (qss_one (qs_asg (ix := []) q_bl (qg_sub hu (qv 2) (q_callTy c_tuple rfl T.n_tuple (by decide +kernel) (qa_cons (q_callB (c_sorted false rfl) rfl T.n_sorted (by decide +kernel) (qa_cons (q_slice false (qv 4) qo_none (qo_some q_int)) qa_nil)) qa_nil)))))))
  (qss_one (qs_ret q_non))))), hs⟩
def q_stations_fault (sp_is_one_of : DSp) : DTS :=
  (qSeq (qIfS (qOr (qNot (qTB (qCB dIsi (qCons (qVar 1) (qCons (qC (.ty "tuple")) qNil))))) (qTB (qOp (dCmpI fun i j => decide (j < i)) (qCB dLen (qCons (qVar 1) qNil)) (qC (.int 12)))))
  (qRet (qUn dNeg (qC (.int 1))))
  qNext)
  (qSeq (qFor (qiEnum0 (qCons (qVar 1) qNil)) (gTupD 2 (gConsD (gNameD 2) (gConsD (gNameD 3) gNilD)))
  (qIfS (qOr (qNot (qTB (qCall sp_is_one_of [] (qCons (qVar 3) (qCons (qVar 0) qNil))))) (qTB (qOp (dIn false) (qVar 3) (qSl false (qVar 1) qNoPart (qPart (qVar 2))))))
  (qRet (qVar 2))
  qNext))
  (qRet (qC .non))))
theorem dv_stations_fault {k : Nat} (T : Tx w K mg) {sp_is_one_of : DSp} (G_is_one_of : FnOk P w K mg base (L2.CX P w) k T.f_is_one_of.f T.f_is_one_of.fd ["thing", "texts"] (toSp K sp_is_one_of)) {p : DSp} (hlen : ∀ ds M Q E, p ds M Q E → ds.length = 2)
    (hs : ∀ ds M Q Ed, upSp p ds M Q Ed → q_stations_fault sp_is_one_of (fun x _ M => Ed x M) (retE Q) (startD N_stations_fault ds) M) : FnOk P w K mg base (L2.CX P w) (k + 1) T.f_stations_fault.f T.f_stations_fault.fd ["names", "thing"] (toSp K p) := by
  refine (fn_ok (p := upSp p) T.f_stations_fault.F sc_stations_fault (fun ds M Q E ⟨Q0, E0, h, _⟩ => hlen ds M Q0 E0 h) fun cdv A outer s H E hr tk hp => ?_).imp fun _ _ _ _ h => imp_up h
  have nd := sc_stations_fault.nd
  have hu64 := hr.units
  have hu := Nat.lt_of_le_of_lt (Nat.add_le_add_left (show 1 ≤ 64 by decide) _) hu64
  exact ⟨_, q_stations_fault sp_is_one_of, (qss_cons (qs_if (QW.t (qw_or (qt_not (qt_val (q_callB c_isi rfl T.n_isinstance (by decide +kernel) (qa_cons (qv 1) (qa_cons (qe_c (pe_bltn (v := .ty "tuple") rfl T.n_tuple (by decide +kernel) rfl) fun _ => rfl) qa_nil))))) (qw_or1 (qt_cmp o_gt (q_callB c_len rfl T.n_len (by decide +kernel) (qa_cons (qv 1) qa_nil)) (q_globI rfl T.g_MOST_STATIONS)))))
  (qss_one (qs_ret (q_neg q_int)))
  qss_nil)
  (qss_cons (qs_for (ix := [2, 3]) hp rfl (qi_enum0 rfl T.n_enumerate (qa_cons (qv 1) qa_nil)) (qg_tup rfl (qgs_cons (qg_nm 2 nd) (qgs_cons (qg_nm 3 nd) qgs_nil)))
  (qss_one (qs_if (QW.t (qw_or (qt_not (qt_val (q_call G_is_one_of hr tk rfl T.f_is_one_of.g T.f_is_one_of.F.kp T.f_is_one_of.b .nil (fun _ => rfl) (qa_cons (qv 3) (qa_cons (qv 0) qa_nil))))) (qw_or1 (qt_cmp (o_in hu) (qv 3) (q_slice false (qv 1) qo_none (qo_some (qv 2)))))))
  (qss_one (qs_ret (qv 2)))
  qss_nil)))
  (qss_one (qs_ret q_non)))), hs⟩
def q_need (c_NoGround : Addr) : DTS :=
  (qIfS (qTB (qOp (dIs true) (qVar 1) (qC .non)))
  (qRaise c_NoGround [(PySem.Str.ofString "part"), (PySem.Str.ofString "at")] (qCons (qVar 0) (qCons (qVar 1) qNil)))
  qNext)
theorem dv_need {k : Nat} (hk : 2 ≤ k) (T : Tx w K mg) {p : DSp} (hlen : ∀ ds M Q E, p ds M Q E → ds.length = 2)
    (hs : ∀ ds M Q Ed, upSp p ds M Q Ed → q_need T.c_NoGround.C (fun x _ M => Ed x M) (retE Q) (startD N_need ds) M) : FnOk P w K mg base (L2.CX P w) (k + 1) T.f_need.f T.f_need.fd ["part", "at"] (toSp K p) := by
  refine (fn_ok (p := upSp p) T.f_need.F sc_need (fun ds M Q E ⟨Q0, E0, h, _⟩ => hlen ds M Q0 E0 h) fun cdv A outer s H E hr tk hp => ?_).imp fun _ _ _ _ h => imp_up h
  have nd := sc_need.nd
  have hu64 := hr.units
  have hu := Nat.lt_of_le_of_lt (Nat.add_le_add_left (show 1 ≤ 64 by decide) _) hu64
  exact ⟨_, q_need T.c_NoGround.C, (qss_one (qs_if (qt_cmp o_isnot (qv 1) q_non)
  (qss_one (qs_raise2 baseX_ValueError T.c_NoGround.p (in_NoGround T) (hr.mono hk) tk rfl (qa_cons (qv 0) (qa_cons (qv 1) qa_nil))))
  qss_nil)), hs⟩
def q_Ground___init__ (c_Ground : Addr) (sp_need : DSp) (sp_places_fault : DSp) (sp_roads_fault : DSp) (sp_stations_fault : DSp) : DTS :=
  (qSeq (qDrop (qCall sp_need [] (qCons (qC (.str (PySem.Str.ofString "places"))) (qCons (qCall sp_places_fault [] (qCons (qVar 1) qNil)) qNil))))
  (qSeq (qSetF c_Ground F_Ground 0 (PySem.Str.ofString "risks") (qVar 0) (qFrzE (qCB dDict (qCons (qVar 1) qNil))))
  (qSeq (qDrop (qCall sp_need [] (qCons (qC (.str (PySem.Str.ofString "roads"))) (qCons (qCall sp_roads_fault [] (qCons (qFld c_Ground F_Ground 0 (qVar 0)) (qCons (qVar 2) qNil))) qNil))))
  (qSeq (qDrop (qCall sp_need [] (qCons (qC (.str (PySem.Str.ofString "stations"))) (qCons (qCall sp_stations_fault [] (qCons (qFld c_Ground F_Ground 0 (qVar 0)) (qCons (qVar 3) qNil))) qNil))))
  (qSeq (qSetF c_Ground F_Ground 1 (PySem.Str.ofString "places") (qVar 0) (qVar 1))
  (qSeq (qSetF c_Ground F_Ground 2 (PySem.Str.ofString "roads") (qVar 0) (qVar 2))
  (qSetF c_Ground F_Ground 3 (PySem.Str.ofString "stations") (qVar 0) (qVar 3))))))))
theorem dv_Ground___init__ {k : Nat} (T : Tx w K mg) {sp_need : DSp} (G_need : FnOk P w K mg base (L2.CX P w) k T.f_need.f T.f_need.fd ["part", "at"] (toSp K sp_need)) {sp_places_fault : DSp} (G_places_fault : FnOk P w K mg base (L2.CX P w) k T.f_places_fault.f T.f_places_fault.fd ["thing"] (toSp K sp_places_fault)) {sp_roads_fault : DSp} (G_roads_fault : FnOk P w K mg base (L2.CX P w) k T.f_roads_fault.f T.f_roads_fault.fd ["names", "thing"] (toSp K sp_roads_fault)) {sp_stations_fault : DSp} (G_stations_fault : FnOk P w K mg base (L2.CX P w) k T.f_stations_fault.f T.f_stations_fault.fd ["names", "thing"] (toSp K sp_stations_fault)) {p : DSp} (hlen : ∀ ds M Q E, p ds M Q E → ds.length = 4)
    (hs : ∀ ds M Q Ed, upSp p ds M Q Ed → q_Ground___init__ T.c_Ground.C sp_need sp_places_fault sp_roads_fault sp_stations_fault (fun x _ M => Ed x M) (retE Q) (startD N_Ground___init__ ds) M) : FnOk P w K mg base (L2.CX P w) (k + 1) T.f_Ground___init__.f T.f_Ground___init__.fd ["self", "places", "roads", "stations"] (toSp K p) := by
  refine (fn_ok (p := upSp p) T.f_Ground___init__.F sc_Ground___init__ (fun ds M Q E ⟨Q0, E0, h, _⟩ => hlen ds M Q0 E0 h) fun cdv A outer s H E hr tk hp => ?_).imp fun _ _ _ _ h => imp_up h
  have nd := sc_Ground___init__.nd
  have hu64 := hr.units
  have hu := Nat.lt_of_le_of_lt (Nat.add_le_add_left (show 1 ≤ 64 by decide) _) hu64
  exact ⟨_, q_Ground___init__ T.c_Ground.C sp_need sp_places_fault sp_roads_fault sp_stations_fault, (qss_cons (qs_expr (q_call G_need hr tk rfl T.f_need.g T.f_need.F.kp T.f_need.b .nil (fun _ => rfl) (qa_cons q_str (qa_cons (q_call G_places_fault hr tk rfl T.f_places_fault.g T.f_places_fault.F.kp T.f_places_fault.b .nil (fun _ => rfl) (qa_cons (qv 1) qa_nil)) qa_nil))))
  (qss_cons (qs_setF (fs := F_Ground) (i := 0) T.c_Ground.cl (T.c_Ground.no _ (by simp)) (qv 0) (q_frzE (q_callTy (c_dict rfl) rfl T.n_dict (by decide +kernel) (qa_cons (qv 1) qa_nil))) (by decide +kernel))
  (qss_cons (qs_expr (q_call G_need hr tk rfl T.f_need.g T.f_need.F.kp T.f_need.b .nil (fun _ => rfl) (qa_cons q_str (qa_cons (q_call G_roads_fault hr tk rfl T.f_roads_fault.g T.f_roads_fault.F.kp T.f_roads_fault.b .nil (fun _ => rfl) (qa_cons (q_fld T.c_Ground.cl (T.c_Ground.no _ (by simp)) (qv 0) (fs := F_Ground) (i := 0) (by decide +kernel)) (qa_cons (qv 2) qa_nil))) qa_nil))))
  (qss_cons (qs_expr (q_call G_need hr tk rfl T.f_need.g T.f_need.F.kp T.f_need.b .nil (fun _ => rfl) (qa_cons q_str (qa_cons (q_call G_stations_fault hr tk rfl T.f_stations_fault.g T.f_stations_fault.F.kp T.f_stations_fault.b .nil (fun _ => rfl) (qa_cons (q_fld T.c_Ground.cl (T.c_Ground.no _ (by simp)) (qv 0) (fs := F_Ground) (i := 0) (by decide +kernel)) (qa_cons (qv 3) qa_nil))) qa_nil))))
  (qss_cons (qs_setF (fs := F_Ground) (i := 1) T.c_Ground.cl (T.c_Ground.no _ (by simp)) (qv 0) (qv 1) (by decide +kernel))
  (qss_cons (qs_setF (fs := F_Ground) (i := 2) T.c_Ground.cl (T.c_Ground.no _ (by simp)) (qv 0) (qv 2) (by decide +kernel))
  (qss_one (qs_setF (fs := F_Ground) (i := 3) T.c_Ground.cl (T.c_Ground.no _ (by simp)) (qv 0) (qv 3) (by decide +kernel))))))))), hs⟩
def q__law_bag : DTS :=
  (qSeq (qAsg (qC (.int 0)) (gNameD 2))
  (qSeq (qIfS (qTB (qOp (dCmpI fun i j => decide (j < i)) (qCB dLen (qCons (qVar 0) qNil)) (qC (.int 0))))
  (qAsg (qOp dIx (qVar 0) (qOp (dInt (fun _ j => 0 < j) fun i j => i % j) (qVar 1) (qCB dLen (qCons (qVar 0) qNil)))) (gNameD 2))
  qNext)
  (qSeq (qAsg (qC (.int 0)) (gNameD 3))
  (qSeq (qIfS (qAnd (qTB (qOp (dCmpI fun i j => decide (j ≤ i)) (qCB dAbs (qCons (qVar 2) qNil)) (qOp (dInt CPow fun i j => i ^ j.toNat) (qC (.int 10)) (qC (.int 18))))) (qTB (qOp (dCmpI fun i j => decide (i < j)) (qVar 1) (qCB dLen (qCons (qVar 0) qNil)))))
  (qAsg (qCB dAbs (qCons (qVar 2) qNil)) (gNameD 3))
  qNext)
  (qSeq (qAsg (qTup (qCons (qC (.int 2147483629)) (qCons (qC (.int 2147483587)) (qCons (qC (.int 2147483579)) (qCons (qC (.int 2147483563)) (qCons (qC (.int 2147483549)) (qCons (qC (.int 2147483543)) (qCons (qC (.int 2147483497)) (qCons (qC (.int 2147483489)) qNil))))))))) (gNameD 4))
  (qRet (qLst true (qCons (qVar 3) (qCons (qOp (dInt (fun _ j => 0 < j) fun i j => i % j) (qOp (dInt CPow fun i j => i ^ j.toNat) (qOp (dAdd false) (qOp (dAdd false) (qOp (dInt (fun _ j => 0 < j) fun i j => i % j) (qVar 2) (qC (.int 2147483647))) (qOp (dInt CMul fun i j => i * j) (qC (.int 104729)) (qVar 1))) (qC (.int 7))) (qC (.int 5))) (qOp dIx (qVar 4) (qOp (dInt (fun _ j => 0 < j) fun i j => i % j) (qVar 1) (qC (.int 8))))) qNil)))))))))
theorem dv__law_bag {k : Nat} (T : Tx w K mg) {p : DSp} (hlen : ∀ ds M Q E, p ds M Q E → ds.length = 2)
    (hs : ∀ ds M Q Ed, upSp p ds M Q Ed → q__law_bag (fun x _ M => Ed x M) (retE Q) (startD N__law_bag ds) M) : FnOk P w K mg base (L2.CX P w) (k + 1) T.f__law_bag.f T.f__law_bag.fd ["_law_script", "_law_at"] (toSp K p) := by
  refine (fn_ok (p := upSp p) T.f__law_bag.F sc__law_bag (fun ds M Q E ⟨Q0, E0, h, _⟩ => hlen ds M Q0 E0 h) fun cdv A outer s H E hr tk hp => ?_).imp fun _ _ _ _ h => imp_up h
  have nd := sc__law_bag.nd
  have hu64 := hr.units
  have hu := Nat.lt_of_le_of_lt (Nat.add_le_add_left (show 1 ≤ 64 by decide) _) hu64
  exact ⟨_, q__law_bag, (qss_cons (qs_setN 2 nd q_int)
  (qss_cons (qs_if (qt_cmp o_gt (q_callB c_len rfl T.n_len (by decide +kernel) (qa_cons (qv 0) qa_nil)) q_int)
  (qss_one (qs_setN 2 nd (q_ix hu (qv 0) (q_op o_mod (qv 1) (q_callB c_len rfl T.n_len (by decide +kernel) (qa_cons (qv 0) qa_nil))))))
  qss_nil)
  (qss_cons (qs_setN 3 nd q_int)
  (qss_cons (qs_if (QW.t (qw_and (qt_cmp o_ge (q_callB c_abs rfl T.n_abs (by decide +kernel) (qa_cons (qv 2) qa_nil)) (q_op o_pow q_int q_int)) (qw_and1 (qt_cmp o_lt (qv 1) (q_callB c_len rfl T.n_len (by decide +kernel) (qa_cons (qv 0) qa_nil))))))
  (qss_one (qs_setN 3 nd (q_callB c_abs rfl T.n_abs (by decide +kernel) (qa_cons (qv 2) qa_nil))))
  qss_nil)
  (qss_cons (qs_setN 4 nd (q_tup (qa_cons q_int (qa_cons q_int (qa_cons q_int (qa_cons q_int (qa_cons q_int (qa_cons q_int (qa_cons q_int (qa_cons q_int qa_nil))))))))))
  (qss_one (qs_ret (q_lst true (qa_cons (qv 3) (qa_cons (q_op o_mod (q_op o_pow (q_op (o_add false) (q_op (o_add false) (q_op o_mod (qv 2) q_int) (q_op o_mulI q_int (qv 1))) q_int) q_int) (q_ix hu (qv 4) (q_op o_mod (qv 1) q_int))) qa_nil)))))))))), hs⟩
def q__law_take : DTS :=
  (qSeq (qIfS (qTB (qOp (dCmpI fun i j => decide (j < i)) (qOp dIx (qVar 0) (qC (.int 0))) (qC (.int 0))))
  (qSeq (qAsg (qOp (dInt (fun _ j => 0 < j) fun i j => i % j) (qOp dIx (qVar 0) (qC (.int 0))) (qVar 1)) (gNameD 2))
  (qSeq (qAsg (qOp (dInt CDiv fun i j => i / j) (qOp dIx (qVar 0) (qC (.int 0))) (qVar 1)) (gSubD (qVar 0) (qC (.int 0))))
  (qRet (qVar 2))))
  qNext)
  (qSeq (qAsg (qOp (dInt (fun _ j => 0 < j) fun i j => i % j) (qOp (dAdd false) (qOp (dInt CMul fun i j => i * j) (qOp dIx (qVar 0) (qC (.int 1))) (qC (.int 48271))) (qC (.int 11))) (qC (.int 2147483647))) (gSubD (qVar 0) (qC (.int 1))))
  (qRet (qOp (dInt (fun _ j => 0 < j) fun i j => i % j) (qOp (dInt (fun _ j => 0 < j) fun i j => i % j) (qOp (dInt CPow fun i j => i ^ j.toNat) (qOp (dInt CDiv fun i j => i / j) (qOp dIx (qVar 0) (qC (.int 1))) (qC (.int 8))) (qC (.int 3))) (qC (.int 2147483629))) (qVar 1)))))
theorem dv__law_take {k : Nat} (T : Tx w K mg) {p : DSp} (hlen : ∀ ds M Q E, p ds M Q E → ds.length = 2)
    (hs : ∀ ds M Q Ed, upSp p ds M Q Ed → q__law_take (fun x _ M => Ed x M) (retE Q) (startD N__law_take ds) M) : FnOk P w K mg base (L2.CX P w) (k + 1) T.f__law_take.f T.f__law_take.fd ["_law_bag_here", "_law_many"] (toSp K p) := by
  refine (fn_ok (p := upSp p) T.f__law_take.F sc__law_take (fun ds M Q E ⟨Q0, E0, h, _⟩ => hlen ds M Q0 E0 h) fun cdv A outer s H E hr tk hp => ?_).imp fun _ _ _ _ h => imp_up h
  have nd := sc__law_take.nd
  have hu64 := hr.units
  have hu := Nat.lt_of_le_of_lt (Nat.add_le_add_left (show 1 ≤ 64 by decide) _) hu64
  exact ⟨_, q__law_take, (qss_cons (qs_if (qt_cmp o_gt (q_ix hu (qv 0) q_int) q_int)
  (qss_cons (qs_setN 2 nd (q_op o_mod (q_ix hu (qv 0) q_int) (qv 1)))
  (qss_cons (qs_asg (ix := []) (q_op o_fdiv (q_ix hu (qv 0) q_int) (qv 1)) (qg_sub hu (qv 0) q_int))
  (qss_one (qs_ret (qv 2)))))
  qss_nil)
  (qss_cons (qs_asg (ix := []) (q_op o_mod (q_op (o_add false) (q_op o_mulI (q_ix hu (qv 0) q_int) q_int) q_int) q_int) (qg_sub hu (qv 0) q_int))
  (qss_one (qs_ret (q_op o_mod (q_op o_mod (q_op o_pow (q_op o_fdiv (q_ix hu (qv 0) q_int) q_int) q_int) q_int) (qv 1)))))), hs⟩
def q__law_names (sp__law_take : DSp) : DTS :=
  (qSeq (qAsg (qC (.str (PySem.Str.ofString "abcdefghijklmnopqrstuvwxyz"))) (gNameD 2))
  (qSeq (qPar 3 4 (qCons (qCall sp__law_take [] (qCons (qVar 0) (qCons (qC (.int 2)) qNil))) (qCons (qCall sp__law_take [] (qCons (qVar 0) (qCons (qC (.int 26)) qNil))) qNil)))
  (qSeq (qAsg (qLst true qNil) (gNameD 5))
  (qSeq (qFor (qiRng1 (qCons (qVar 1) qNil)) (gNameD 6)
  (qSeq (qAsg (qBM "str" mJoin (qC (.str (PySem.Str.ofString ""))) (qCons (qLc false (qiRng1 (qCons (qOp dIx (qTup (qCons (qC (.int 0)) (qCons (qC (.int 1)) (qCons (qC (.int 2)) (qCons (qC (.int 7)) qNil))))) (qCall sp__law_take [] (qCons (qVar 0) (qCons (qC (.int 4)) qNil)))) qNil)) (gNameD 9) qYes (qOp dIx (qVar 2) (qCall sp__law_take [] (qCons (qVar 0) (qCons (qC (.int 26)) qNil)))) [9]) qNil)) (gNameD 7))
  (qSeq (qAsg (qOp dIx (qVar 2) (qOp (dInt (fun _ j => 0 < j) fun i j => i % j) (qOp (dAdd false) (qVar 4) (qOp (dInt CMul fun i j => i * j) (qC (.int 7)) (qVar 6))) (qC (.int 26)))) (gNameD 8))
  (qDrop (qBM "list" mApp (qVar 5) (qCons (qIf (qTB (qOp (dEq false) (qVar 3) (qC (.int 0)))) (qOp (dAdd false) (qVar 8) (qVar 7)) (qOp (dAdd false) (qVar 7) (qVar 8))) qNil))))))
  (qFrz 5 (qRet (qVar 5)))))))
theorem dv__law_names {k : Nat} (T : Tx w K mg) {sp__law_take : DSp} (G__law_take : FnOk P w K mg base (L2.CX P w) k T.f__law_take.f T.f__law_take.fd ["_law_bag_here", "_law_many"] (toSp K sp__law_take)) {p : DSp} (hlen : ∀ ds M Q E, p ds M Q E → ds.length = 2)
    (hs : ∀ ds M Q Ed, upSp p ds M Q Ed → q__law_names sp__law_take (fun x _ M => Ed x M) (retE Q) (startD N__law_names ds) M) : FnOk P w K mg base (L2.CX P w) (k + 1) T.f__law_names.f T.f__law_names.fd ["_law_bag_here", "_law_many"] (toSp K p) := by
  refine (fn_ok (p := upSp p) T.f__law_names.F sc__law_names (fun ds M Q E ⟨Q0, E0, h, _⟩ => hlen ds M Q0 E0 h) fun cdv A outer s H E hr tk hp => ?_).imp fun _ _ _ _ h => imp_up h
  have nd := sc__law_names.nd
  have hu64 := hr.units
  have hu := Nat.lt_of_le_of_lt (Nat.add_le_add_left (show 1 ≤ 64 by decide) _) hu64
  exact ⟨_, q__law_names sp__law_take, (qss_cons (qs_setN 2 nd q_str)
  (qss_cons (qs_parN 3 4 rfl nd (qa_cons (q_call G__law_take hr tk rfl T.f__law_take.g T.f__law_take.F.kp T.f__law_take.b .nil (fun _ => rfl) (qa_cons (qv 0) (qa_cons q_int qa_nil))) (qa_cons (q_call G__law_take hr tk rfl T.f__law_take.g T.f__law_take.F.kp T.f__law_take.b .nil (fun _ => rfl) (qa_cons (qv 0) (qa_cons q_int qa_nil))) qa_nil)))
  (qss_cons (qs_setN 5 nd (q_lst true qa_nil))
  (qss_cons (qs_for (ix := [6]) hp rfl (qi_range1 rfl T.n_range (qa_cons (qv 1) qa_nil)) (qg_nm 6 nd)
  (qss_cons (qs_setN 7 nd (q_bm PySem.F.plainAttrs_str PySem.F.slot_str_join PySem.F.type_str_join m_join q_str (qa_cons (q_lcX (own := [("_law_step", 9)]) false rfl nd (qi_range1 rfl T.n_range (qa_cons (q_ix hu (q_tup (qa_cons q_int (qa_cons q_int (qa_cons q_int (qa_cons q_int qa_nil))))) (q_call G__law_take hr tk rfl T.f__law_take.g T.f__law_take.F.kp T.f__law_take.b .nil (fun _ => rfl) (qa_cons (qv 0) (qa_cons q_int qa_nil)))) qa_nil)) (blkOk_by (own := [("_law_step", 9)]) (N := N__law_names) (sc := defScope s__law_names) (by decide +kernel)) (fun _ _ _ _ _ => ⟨_, (qg_nm 9 nd)⟩) (fun _ _ _ _ _ => ⟨_, qts_nil⟩) (fun _ _ _ _ _ => ⟨_, (q_ix hu (qv 2) (q_call G__law_take hr takes0 rfl T.f__law_take.g T.f__law_take.F.kp T.f__law_take.b .nil (fun _ => rfl) (qa_cons (qv 0) (qa_cons q_int qa_nil))))⟩)) qa_nil)))
  (qss_cons (qs_setN 8 nd (q_ix hu (qv 2) (q_op o_mod (q_op (o_add false) (qv 4) (q_op o_mulI q_int (qv 6))) q_int)))
  (qss_one (qs_expr (q_bm PySem.F.plainAttrs_list PySem.F.slot_list_append PySem.F.type_list_append m_append (qv 5) (qa_cons (q_if (qt_cmp (o_eq hu64) (qv 3) q_int) (q_op (o_add false) (qv 8) (qv 7)) (q_op (o_add false) (qv 7) (qv 8))) qa_nil)))))))
  (qss_one (qs_frz 5 (qs_ret (qv 5)))))))), hs⟩
def q__law_ground (c_Ground : Addr) (sp_Ground___init__ : DSp) (sp__law_names : DSp) (sp__law_take : DSp) : DTS :=
  (qSeq (qAsg (qCall sp__law_names [] (qCons (qVar 0) (qCons (qC (.int 12)) qNil))) (gNameD 2))
  (qSeq (qAsg (qOp (dAdd false) (qC (.int 1)) (qCall sp__law_take [] (qCons (qVar 0) (qCons (qVar 1) qNil)))) (gNameD 3))
  (qSeq (qAsg (qCB dTupX (qCons (qLc false (qiAny (qVar 2)) (gNameD 5) qYes (qTup (qCons (qVar 5) (qCons (qOp (dAdd false) (qC (.int 1)) (qCall sp__law_take [] (qCons (qVar 0) (qCons (qC (.int 4)) qNil)))) qNil))) [5]) qNil)) (gNameD 4))
  (qRet (qFrzE (qMake c_Ground sp_Ground___init__ [] (qCons (qVar 4) (qCons (qTup qNil) (qCons (qCB dTupX (qCons (qStep false (qSl false (qVar 2) qNoPart (qPart (qVar 3))) qNoPart qNoPart (qPart (qOp (dInt0 fun i j => i - j) (qC (.int 1)) (qOp (dInt CMul fun i j => i * j) (qC (.int 2)) (qCall sp__law_take [] (qCons (qVar 0) (qCons (qC (.int 2)) qNil))))))) qNil)) qNil)))))))))
theorem dv__law_ground {k : Nat} (T : Tx w K mg) {ki_Ground : Nat} (hi_Ground : ki_Ground + 1 ≤ k) {sp_Ground___init__ : DSp} (G_Ground___init__ : FnOk P w K mg base (L2.CX P w) ki_Ground T.f_Ground___init__.f T.f_Ground___init__.fd ["self", "places", "roads", "stations"] (toSp K sp_Ground___init__)) {sp__law_names : DSp} (G__law_names : FnOk P w K mg base (L2.CX P w) k T.f__law_names.f T.f__law_names.fd ["_law_bag_here", "_law_many"] (toSp K sp__law_names)) {sp__law_take : DSp} (G__law_take : FnOk P w K mg base (L2.CX P w) k T.f__law_take.f T.f__law_take.fd ["_law_bag_here", "_law_many"] (toSp K sp__law_take)) {p : DSp} (hlen : ∀ ds M Q E, p ds M Q E → ds.length = 2)
    (hs : ∀ ds M Q Ed, upSp p ds M Q Ed → q__law_ground T.c_Ground.C sp_Ground___init__ sp__law_names sp__law_take (fun x _ M => Ed x M) (retE Q) (startD N__law_ground ds) M) : FnOk P w K mg base (L2.CX P w) (k + 1) T.f__law_ground.f T.f__law_ground.fd ["_law_bag_here", "_law_most_here"] (toSp K p) := by
  refine (fn_ok (p := upSp p) T.f__law_ground.F sc__law_ground (fun ds M Q E ⟨Q0, E0, h, _⟩ => hlen ds M Q0 E0 h) fun cdv A outer s H E hr tk hp => ?_).imp fun _ _ _ _ h => imp_up h
  have nd := sc__law_ground.nd
  have hu64 := hr.units
  have hu := Nat.lt_of_le_of_lt (Nat.add_le_add_left (show 1 ≤ 64 by decide) _) hu64
  exact ⟨_, q__law_ground T.c_Ground.C sp_Ground___init__ sp__law_names sp__law_take, (qss_cons (qs_setN 2 nd (q_call G__law_names hr tk rfl T.f__law_names.g T.f__law_names.F.kp T.f__law_names.b .nil (fun _ => rfl) (qa_cons (qv 0) (qa_cons q_int qa_nil))))
  (qss_cons (qs_setN 3 nd (q_op (o_add false) q_int (q_call G__law_take hr tk rfl T.f__law_take.g T.f__law_take.F.kp T.f__law_take.b .nil (fun _ => rfl) (qa_cons (qv 0) (qa_cons (qv 1) qa_nil)))))
  (qss_cons (qs_setN 4 nd (q_callTy c_tupleX rfl T.n_tuple (by decide +kernel) (qa_cons (q_lcX (own := [("_law_name", 5)]) false rfl nd (qi_any (qv 2)) (blkOk_by (own := [("_law_name", 5)]) (N := N__law_ground) (sc := defScope s__law_ground) (by decide +kernel)) (fun _ _ _ _ _ => ⟨_, (qg_nm 5 nd)⟩) (fun _ _ _ _ _ => ⟨_, qts_nil⟩) (fun _ _ _ _ _ => ⟨_, (q_tup (qa_cons (qv 5) (qa_cons (q_op (o_add false) q_int (q_call G__law_take hr takes0 rfl T.f__law_take.g T.f__law_take.F.kp T.f__law_take.b .nil (fun _ => rfl) (qa_cons (qv 0) (qa_cons q_int qa_nil)))) qa_nil)))⟩)) qa_nil)))
  (qss_one (qs_ret (q_frzE (q_make (dds := []) (T.mk_Ground) G_Ground___init__ (hr.mono hi_Ground) tk rfl T.c_Ground.g T.f_Ground___init__.b .nil (fun _ => rfl) (qa_cons (qv 4) (qa_cons (q_tup qa_nil) (qa_cons (q_callTy c_tupleX rfl T.n_tuple (by decide +kernel) (qa_cons (q_step false (q_slice false (qv 2) qo_none (qo_some (qv 3))) qo_none qo_none (qo_some (q_op o_sub q_int (q_op o_mulI q_int (q_call G__law_take hr tk rfl T.f__law_take.g T.f__law_take.F.kp T.f__law_take.b .nil (fun _ => rfl) (qa_cons (qv 0) (qa_cons q_int qa_nil))))))) qa_nil)) qa_nil)))))))))), hs⟩
def q__law_engines (sp__law_names : DSp) (sp__law_take : DSp) : DTS :=
  (qSeq (qAsg (qCall sp__law_names [] (qCons (qVar 0) (qCons (qC (.int 24)) qNil))) (gNameD 3))
  (qSeq (qAsg (qLst true qNil) (gNameD 4))
  (qSeq (qFor (qiRng1 (qCons (qCall sp__law_take [] (qCons (qVar 0) (qCons (qOp (dAdd false) (qVar 2) (qC (.int 1))) qNil))) qNil)) (gNameD 5)
  (qSeq (qAsg (qOp dIx (qTup (qCons (qC (.str (PySem.Str.ofString "pump"))) (qCons (qC (.str (PySem.Str.ofString "ladder"))) (qCons (qC (.str (PySem.Str.ofString "tanker"))) qNil)))) (qCall sp__law_take [] (qCons (qVar 0) (qCons (qC (.int 3)) qNil)))) (gNameD 6))
  (qSeq (qAsg (qOp (dAdd false) (qC (.int 1)) (qCall sp__law_take [] (qCons (qVar 0) (qCons (qOp dIx (qTup (qCons (qC (.int 9)) (qCons (qC (.int 2)) qNil))) (qCall sp__law_take [] (qCons (qVar 0) (qCons (qC (.int 2)) qNil)))) qNil)))) (gNameD 7))
  (qDrop (qBM "list" mApp (qVar 4) (qCons (qTup (qCons (qOp dIx (qVar 3) (qVar 5)) (qCons (qVar 6) (qCons (qOp dIx (qVar 1) (qCall sp__law_take [] (qCons (qVar 0) (qCons (qCB dLen (qCons (qVar 1) qNil)) qNil)))) (qCons (qVar 7) qNil))))) qNil))))))
  (qRet (qCB dTuple (qCons (qVar 4) qNil))))))
theorem dv__law_engines {k : Nat} (T : Tx w K mg) {sp__law_names : DSp} (G__law_names : FnOk P w K mg base (L2.CX P w) k T.f__law_names.f T.f__law_names.fd ["_law_bag_here", "_law_many"] (toSp K sp__law_names)) {sp__law_take : DSp} (G__law_take : FnOk P w K mg base (L2.CX P w) k T.f__law_take.f T.f__law_take.fd ["_law_bag_here", "_law_many"] (toSp K sp__law_take)) {p : DSp} (hlen : ∀ ds M Q E, p ds M Q E → ds.length = 3)
    (hs : ∀ ds M Q Ed, upSp p ds M Q Ed → q__law_engines sp__law_names sp__law_take (fun x _ M => Ed x M) (retE Q) (startD N__law_engines ds) M) : FnOk P w K mg base (L2.CX P w) (k + 1) T.f__law_engines.f T.f__law_engines.fd ["_law_bag_here", "_law_stations", "_law_most_here"] (toSp K p) := by
  refine (fn_ok (p := upSp p) T.f__law_engines.F sc__law_engines (fun ds M Q E ⟨Q0, E0, h, _⟩ => hlen ds M Q0 E0 h) fun cdv A outer s H E hr tk hp => ?_).imp fun _ _ _ _ h => imp_up h
  have nd := sc__law_engines.nd
  have hu64 := hr.units
  have hu := Nat.lt_of_le_of_lt (Nat.add_le_add_left (show 1 ≤ 64 by decide) _) hu64
  exact ⟨_, q__law_engines sp__law_names sp__law_take, (qss_cons (qs_setN 3 nd (q_call G__law_names hr tk rfl T.f__law_names.g T.f__law_names.F.kp T.f__law_names.b .nil (fun _ => rfl) (qa_cons (qv 0) (qa_cons q_int qa_nil))))
  (qss_cons (qs_setN 4 nd (q_lst true qa_nil))
  (qss_cons (qs_for (ix := [5]) hp rfl (qi_range1 rfl T.n_range (qa_cons (q_call G__law_take hr tk rfl T.f__law_take.g T.f__law_take.F.kp T.f__law_take.b .nil (fun _ => rfl) (qa_cons (qv 0) (qa_cons (q_op (o_add false) (qv 2) q_int) qa_nil))) qa_nil)) (qg_nm 5 nd)
  (qss_cons (qs_setN 6 nd (q_ix hu (q_tup (qa_cons q_str (qa_cons q_str (qa_cons q_str qa_nil)))) (q_call G__law_take hr tk rfl T.f__law_take.g T.f__law_take.F.kp T.f__law_take.b .nil (fun _ => rfl) (qa_cons (qv 0) (qa_cons q_int qa_nil)))))
  (qss_cons (qs_setN 7 nd (q_op (o_add false) q_int (q_call G__law_take hr tk rfl T.f__law_take.g T.f__law_take.F.kp T.f__law_take.b .nil (fun _ => rfl) (qa_cons (qv 0) (qa_cons (q_ix hu (q_tup (qa_cons q_int (qa_cons q_int qa_nil))) (q_call G__law_take hr tk rfl T.f__law_take.g T.f__law_take.F.kp T.f__law_take.b .nil (fun _ => rfl) (qa_cons (qv 0) (qa_cons q_int qa_nil)))) qa_nil)))))
  (qss_one (qs_expr (q_bm PySem.F.plainAttrs_list PySem.F.slot_list_append PySem.F.type_list_append m_append (qv 4) (qa_cons (q_tup (qa_cons (q_ix hu (qv 3) (qv 5)) (qa_cons (qv 6) (qa_cons (q_ix hu (qv 1) (q_call G__law_take hr tk rfl T.f__law_take.g T.f__law_take.F.kp T.f__law_take.b .nil (fun _ => rfl) (qa_cons (qv 0) (qa_cons (q_callB c_len rfl T.n_len (by decide +kernel) (qa_cons (qv 1) qa_nil)) qa_nil)))) (qa_cons (qv 7) qa_nil))))) qa_nil)))))))
  (qss_one (qs_ret (q_callTy c_tuple rfl T.n_tuple (by decide +kernel) (qa_cons (qv 4) qa_nil))))))), hs⟩
def q__law_hands (sp__law_take : DSp) : DTS :=
  (qSeq (qAsg (qC (.str (PySem.Str.ofString "abcdefghijklmnopqrstuvwxyz"))) (gNameD 3))
  (qSeq (qAsg (qCall sp__law_take [] (qCons (qVar 0) (qCons (qC (.int 26)) qNil))) (gNameD 4))
  (qSeq (qAsg (qBM "str" mJoin (qC (.str (PySem.Str.ofString ""))) (qCons (qLc false (qiRng1 (qCons (qC (.int 5)) qNil)) (gNameD 7) qYes (qOp dIx (qVar 3) (qCall sp__law_take [] (qCons (qVar 0) (qCons (qC (.int 26)) qNil)))) [7]) qNil)) (gNameD 5))
  (qSeq (qAsg (qLst true qNil) (gNameD 6))
  (qSeq (qFor (qiRng1 (qCons (qCall sp__law_take [] (qCons (qVar 0) (qCons (qOp (dAdd false) (qVar 2) (qC (.int 1))) qNil))) qNil)) (gNameD 7)
  (qSeq (qAsg (qOp (dAdd false) (qOp dIx (qVar 3) (qOp (dInt (fun _ j => 0 < j) fun i j => i % j) (qOp (dAdd false) (qVar 4) (qOp (dInt CMul fun i j => i * j) (qC (.int 5)) (qVar 7))) (qC (.int 26)))) (qOp dIx (qVar 3) (qOp (dInt (fun _ j => 0 < j) fun i j => i % j) (qOp (dInt CDiv fun i j => i / j) (qOp (dAdd false) (qOp (dInt CMul fun i j => i * j) (qC (.int 3)) (qVar 4)) (qVar 7)) (qC (.int 26))) (qC (.int 26))))) (gNameD 8))
  (qSeq (qAsg (qOp (dAdd false) (qVar 8) (qSl false (qVar 5) qNoPart (qPart (qCall sp__law_take [] (qCons (qVar 0) (qCons (qC (.int 6)) qNil)))))) (gNameD 8))
  (qSeq (qAsg (qLst true qNil) (gNameD 9))
  (qSeq (qFor (qiRng1 (qCons (qCall sp__law_take [] (qCons (qVar 0) (qCons (qOp dIx (qTup (qCons (qC (.int 3)) (qCons (qC (.int 6)) qNil))) (qCall sp__law_take [] (qCons (qVar 0) (qCons (qC (.int 2)) qNil)))) qNil))) qNil)) (gNameD 10)
  (qSeq (qAsg (qOp dIx (qTup (qCons (qC (.str (PySem.Str.ofString "drive"))) (qCons (qC (.str (PySem.Str.ofString "lead"))) (qCons (qC (.str (PySem.Str.ofString "wear"))) (qCons (qC (.str (PySem.Str.ofString "drive"))) qNil))))) (qCall sp__law_take [] (qCons (qVar 0) (qCons (qC (.int 4)) qNil)))) (gNameD 11))
  (qDrop (qBM "list" mApp (qVar 9) (qCons (qTup (qCons (qVar 11) (qCons (qCall sp__law_take [] (qCons (qVar 0) (qCons (qC (.int 10)) qNil))) qNil))) qNil)))))
  (qDrop (qBM "list" mApp (qVar 6) (qCons (qTup (qCons (qVar 8) (qCons (qOp dIx (qVar 1) (qCall sp__law_take [] (qCons (qVar 0) (qCons (qCB dLen (qCons (qVar 1) qNil)) qNil)))) (qCons (qCall sp__law_take [] (qCons (qVar 0) (qCons (qC (.int 4)) qNil))) (qCons (qCB dTuple (qCons (qVar 9) qNil)) qNil))))) qNil))))))))
  (qRet (qCB dTuple (qCons (qVar 6) qNil))))))))
theorem dv__law_hands {k : Nat} (T : Tx w K mg) {sp__law_take : DSp} (G__law_take : FnOk P w K mg base (L2.CX P w) k T.f__law_take.f T.f__law_take.fd ["_law_bag_here", "_law_many"] (toSp K sp__law_take)) {p : DSp} (hlen : ∀ ds M Q E, p ds M Q E → ds.length = 3)
    (hs : ∀ ds M Q Ed, upSp p ds M Q Ed → q__law_hands sp__law_take (fun x _ M => Ed x M) (retE Q) (startD N__law_hands ds) M) : FnOk P w K mg base (L2.CX P w) (k + 1) T.f__law_hands.f T.f__law_hands.fd ["_law_bag_here", "_law_stations", "_law_most_here"] (toSp K p) := by
  refine (fn_ok (p := upSp p) T.f__law_hands.F sc__law_hands (fun ds M Q E ⟨Q0, E0, h, _⟩ => hlen ds M Q0 E0 h) fun cdv A outer s H E hr tk hp => ?_).imp fun _ _ _ _ h => imp_up h
  have nd := sc__law_hands.nd
  have hu64 := hr.units
  have hu := Nat.lt_of_le_of_lt (Nat.add_le_add_left (show 1 ≤ 64 by decide) _) hu64
  exact ⟨_, q__law_hands sp__law_take, (qss_cons (qs_setN 3 nd q_str)
  (qss_cons (qs_setN 4 nd (q_call G__law_take hr tk rfl T.f__law_take.g T.f__law_take.F.kp T.f__law_take.b .nil (fun _ => rfl) (qa_cons (qv 0) (qa_cons q_int qa_nil))))
  (qss_cons (qs_setN 5 nd (q_bm PySem.F.plainAttrs_str PySem.F.slot_str_join PySem.F.type_str_join m_join q_str (qa_cons (q_lcX (own := [("_law_k", 7)]) false rfl nd (qi_range1 rfl T.n_range (qa_cons q_int qa_nil)) (blkOk_by (own := [("_law_k", 7)]) (N := N__law_hands) (sc := defScope s__law_hands) (by decide +kernel)) (fun _ _ _ _ _ => ⟨_, (qg_nm 7 nd)⟩) (fun _ _ _ _ _ => ⟨_, qts_nil⟩) (fun _ _ _ _ _ => ⟨_, (q_ix hu (qv 3) (q_call G__law_take hr takes0 rfl T.f__law_take.g T.f__law_take.F.kp T.f__law_take.b .nil (fun _ => rfl) (qa_cons (qv 0) (qa_cons q_int qa_nil))))⟩)) qa_nil)))
  (qss_cons (qs_setN 6 nd (q_lst true qa_nil))
  (qss_cons (qs_for (ix := [7]) hp rfl (qi_range1 rfl T.n_range (qa_cons (q_call G__law_take hr tk rfl T.f__law_take.g T.f__law_take.F.kp T.f__law_take.b .nil (fun _ => rfl) (qa_cons (qv 0) (qa_cons (q_op (o_add false) (qv 2) q_int) qa_nil))) qa_nil)) (qg_nm 7 nd)
  (qss_cons (qs_setN 8 nd (q_op (o_add false) (q_ix hu (qv 3) (q_op o_mod (q_op (o_add false) (qv 4) (q_op o_mulI q_int (qv 7))) q_int)) (q_ix hu (qv 3) (q_op o_mod (q_op o_fdiv (q_op (o_add false) (q_op o_mulI q_int (qv 4)) (qv 7)) q_int) q_int))))
  (qss_cons (qs_setN 8 nd (q_op (o_add false) (qv 8) (q_slice false (qv 5) qo_none (qo_some (q_call G__law_take hr tk rfl T.f__law_take.g T.f__law_take.F.kp T.f__law_take.b .nil (fun _ => rfl) (qa_cons (qv 0) (qa_cons q_int qa_nil)))))))
  (qss_cons (qs_setN 9 nd (q_lst true qa_nil))
  (qss_cons (qs_for (ix := [10]) hp rfl (qi_range1 rfl T.n_range (qa_cons (q_call G__law_take hr tk rfl T.f__law_take.g T.f__law_take.F.kp T.f__law_take.b .nil (fun _ => rfl) (qa_cons (qv 0) (qa_cons (q_ix hu (q_tup (qa_cons q_int (qa_cons q_int qa_nil))) (q_call G__law_take hr tk rfl T.f__law_take.g T.f__law_take.F.kp T.f__law_take.b .nil (fun _ => rfl) (qa_cons (qv 0) (qa_cons q_int qa_nil)))) qa_nil))) qa_nil)) (qg_nm 10 nd)
  (qss_cons (qs_setN 11 nd (q_ix hu (q_tup (qa_cons q_str (qa_cons q_str (qa_cons q_str (qa_cons q_str qa_nil))))) (q_call G__law_take hr tk rfl T.f__law_take.g T.f__law_take.F.kp T.f__law_take.b .nil (fun _ => rfl) (qa_cons (qv 0) (qa_cons q_int qa_nil)))))
  (qss_one (qs_expr (q_bm PySem.F.plainAttrs_list PySem.F.slot_list_append PySem.F.type_list_append m_append (qv 9) (qa_cons (q_tup (qa_cons (qv 11) (qa_cons (q_call G__law_take hr tk rfl T.f__law_take.g T.f__law_take.F.kp T.f__law_take.b .nil (fun _ => rfl) (qa_cons (qv 0) (qa_cons q_int qa_nil))) qa_nil))) qa_nil))))))
  (qss_one (qs_expr (q_bm PySem.F.plainAttrs_list PySem.F.slot_list_append PySem.F.type_list_append m_append (qv 6) (qa_cons (q_tup (qa_cons (qv 8) (qa_cons (q_ix hu (qv 1) (q_call G__law_take hr tk rfl T.f__law_take.g T.f__law_take.F.kp T.f__law_take.b .nil (fun _ => rfl) (qa_cons (qv 0) (qa_cons (q_callB c_len rfl T.n_len (by decide +kernel) (qa_cons (qv 1) qa_nil)) qa_nil)))) (qa_cons (q_call G__law_take hr tk rfl T.f__law_take.g T.f__law_take.F.kp T.f__law_take.b .nil (fun _ => rfl) (qa_cons (qv 0) (qa_cons q_int qa_nil))) (qa_cons (q_callTy c_tuple rfl T.n_tuple (by decide +kernel) (qa_cons (qv 9) qa_nil)) qa_nil))))) qa_nil)))))))))
  (qss_one (qs_ret (q_callTy c_tuple rfl T.n_tuple (by decide +kernel) (qa_cons (qv 6) qa_nil))))))))), hs⟩
def q__law_watch : DTS :=
  (qRet (qOp (dIn false) (qOp (dInt (fun _ j => 0 < j) fun i j => i % j) (qOp (dAdd false) (qVar 1) (qOp dIx (qVar 0) (qC (.int 2)))) (qC (.int 4))) (qTup (qCons (qC (.int 0)) (qCons (qC (.int 1)) qNil)))))
theorem dv__law_watch {k : Nat} (T : Tx w K mg) {p : DSp} (hlen : ∀ ds M Q E, p ds M Q E → ds.length = 2)
    (hs : ∀ ds M Q Ed, upSp p ds M Q Ed → q__law_watch (fun x _ M => Ed x M) (retE Q) (startD N__law_watch ds) M) : FnOk P w K mg base (L2.CX P w) (k + 1) T.f__law_watch.f T.f__law_watch.fd ["_law_hand", "_law_date"] (toSp K p) := by
  refine (fn_ok (p := upSp p) T.f__law_watch.F sc__law_watch (fun ds M Q E ⟨Q0, E0, h, _⟩ => hlen ds M Q0 E0 h) fun cdv A outer s H E hr tk hp => ?_).imp fun _ _ _ _ h => imp_up h
  have nd := sc__law_watch.nd
  have hu64 := hr.units
  have hu := Nat.lt_of_le_of_lt (Nat.add_le_add_left (show 1 ≤ 64 by decide) _) hu64
  exact ⟨_, q__law_watch, (qss_one (qs_ret (q_cmp (o_in hu) (q_op o_mod (q_op (o_add false) (qv 1) (q_ix hu (qv 0) q_int)) q_int) (q_tup (qa_cons q_int (qa_cons q_int qa_nil)))))), hs⟩
def q__law_drives (sp__law_watch : DSp) : DTS :=
  (qSeq (qIfS (qOr (qTB (qOp (dEq true) (qOp dIx (qVar 1) (qC (.int 1))) (qOp dIx (qVar 0) (qC (.int 2))))) (qNot (qTB (qCall sp__law_watch [] (qCons (qVar 1) (qCons (qVar 2) qNil))))))
  (qRet (qC (.bl false)))
  qNext)
  (qRet (qCB dAny (qCons (qLc false (qiAny (qOp dIx (qVar 1) (qC (.int 3)))) (gTupD 2 (gConsD (gNameD 3) (gConsD (gNameD 4) gNilD))) qYes (qAndV (qOp (dEq false) (qVar 3) (qC (.str (PySem.Str.ofString "drive")))) (qOp (dCmpI fun i j => decide (j ≤ i)) (qVar 4) (qVar 2))) [3, 4]) qNil))))
theorem dv__law_drives {k : Nat} (T : Tx w K mg) {sp__law_watch : DSp} (G__law_watch : FnOk P w K mg base (L2.CX P w) k T.f__law_watch.f T.f__law_watch.fd ["_law_hand", "_law_date"] (toSp K sp__law_watch)) {p : DSp} (hlen : ∀ ds M Q E, p ds M Q E → ds.length = 3)
    (hs : ∀ ds M Q Ed, upSp p ds M Q Ed → q__law_drives sp__law_watch (fun x _ M => Ed x M) (retE Q) (startD N__law_drives ds) M) : FnOk P w K mg base (L2.CX P w) (k + 1) T.f__law_drives.f T.f__law_drives.fd ["_law_engine", "_law_hand", "_law_date"] (toSp K p) := by
  refine (fn_ok (p := upSp p) T.f__law_drives.F sc__law_drives (fun ds M Q E ⟨Q0, E0, h, _⟩ => hlen ds M Q0 E0 h) fun cdv A outer s H E hr tk hp => ?_).imp fun _ _ _ _ h => imp_up h
  have nd := sc__law_drives.nd
  have hu64 := hr.units
  have hu := Nat.lt_of_le_of_lt (Nat.add_le_add_left (show 1 ≤ 64 by decide) _) hu64
  exact ⟨_, q__law_drives sp__law_watch, (qss_cons (qs_if (QW.t (qw_or (qt_cmp (o_ne hu64) (q_ix hu (qv 1) q_int) (q_ix hu (qv 0) q_int)) (qw_or1 (qt_not (qt_val (q_call G__law_watch hr tk rfl T.f__law_watch.g T.f__law_watch.F.kp T.f__law_watch.b .nil (fun _ => rfl) (qa_cons (qv 1) (qa_cons (qv 2) qa_nil))))))))
  (qss_one (qs_ret q_bl))
  qss_nil)
  (qss_one (qs_ret (q_callB (c_any rfl) rfl T.n_any (by decide +kernel) (qa_cons (q_lcX (own := [("_law_skill", 3), ("_law_last", 4)]) false rfl nd (qi_any (q_ix hu (qv 1) q_int)) (blkOk_by (own := [("_law_skill", 3), ("_law_last", 4)]) (N := N__law_drives) (sc := defScope s__law_drives) (by decide +kernel)) (fun _ _ _ _ _ => ⟨_, (qg_tup rfl (qgs_cons (qg_nm 3 nd) (qgs_cons (qg_nm 4 nd) qgs_nil)))⟩) (fun _ _ _ _ _ => ⟨_, qts_nil⟩) (fun _ _ _ _ _ => ⟨_, (q_and (q_cmp (o_eq hu64) (qv 3) q_str) (q_one (q_cmp o_ge (qv 4) (qv 2))))⟩)) qa_nil))))), hs⟩
def q__law_gets (sp__law_gets : DSp) : DTS :=
  (qSeq (qFor (qiAny (qOp dIx (qVar 0) (qVar 2))) (gNameD 4)
  (qIfS (qTB (qOp (dIn true) (qVar 4) (qVar 3)))
  (qSeq (qDrop (qBM "list" mApp (qVar 3) (qCons (qVar 4) qNil)))
  (qIfS (qOr (qTB (qOp (dIn true) (qVar 4) (qVar 1))) (qTB (qCall sp__law_gets [] (qCons (qVar 0) (qCons (qVar 1) (qCons (qOp dIx (qVar 1) (qVar 4)) (qCons (qVar 3) qNil)))))))
  (qSeq (qAsg (qVar 2) (gSubD (qVar 1) (qVar 4)))
  (qRet (qC (.bl true))))
  qNext))
  qNext))
  (qRet (qC (.bl false))))
theorem dv__law_gets {k : Nat} (T : Tx w K mg) {sp__law_gets : DSp} (G__law_gets : FnOk P w K mg base (L2.CX P w) k T.f__law_gets.f T.f__law_gets.fd ["_law_wants", "_law_held", "_law_wish", "_law_tried"] (toSp K sp__law_gets)) {p : DSp} (hlen : ∀ ds M Q E, p ds M Q E → ds.length = 4)
    (hs : ∀ ds M Q Ed, upSp p ds M Q Ed → q__law_gets sp__law_gets (fun x _ M => Ed x M) (retE Q) (startD N__law_gets ds) M) : FnOk P w K mg base (L2.CX P w) (k + 1) T.f__law_gets.f T.f__law_gets.fd ["_law_wants", "_law_held", "_law_wish", "_law_tried"] (toSp K p) := by
  refine (fn_ok (p := upSp p) T.f__law_gets.F sc__law_gets (fun ds M Q E ⟨Q0, E0, h, _⟩ => hlen ds M Q0 E0 h) fun cdv A outer s H E hr tk hp => ?_).imp fun _ _ _ _ h => imp_up h
  have nd := sc__law_gets.nd
  have hu64 := hr.units
  have hu := Nat.lt_of_le_of_lt (Nat.add_le_add_left (show 1 ≤ 64 by decide) _) hu64
  exact ⟨_, q__law_gets sp__law_gets, (qss_cons (qs_for (ix := [4]) hp rfl (qi_any (q_ix hu (qv 0) (qv 2))) (qg_nm 4 nd)
  (qss_one (qs_if (qt_cmp (o_notin hu) (qv 4) (qv 3))
  (qss_cons (qs_expr (q_bm PySem.F.plainAttrs_list PySem.F.slot_list_append PySem.F.type_list_append m_append (qv 3) (qa_cons (qv 4) qa_nil)))
  (qss_one (qs_if (QW.t (qw_or (qt_cmp (o_notin hu) (qv 4) (qv 1)) (qw_or1 (qt_val (q_call G__law_gets hr tk rfl T.f__law_gets.g T.f__law_gets.F.kp T.f__law_gets.b .nil (fun _ => rfl) (qa_cons (qv 0) (qa_cons (qv 1) (qa_cons (q_ix hu (qv 1) (qv 4)) (qa_cons (qv 3) qa_nil)))))))))
  (qss_cons (qs_asg (ix := []) (qv 2) (qg_sub hu (qv 1) (qv 4)))
  (qss_one (qs_ret q_bl)))
  qss_nil)))
  qss_nil)))
  (qss_one (qs_ret q_bl))), hs⟩
def q__law_most (sp__law_drives : DSp) (sp__law_gets : DSp) : DTS :=
  (qSeq (qAsg (qLc false (qiAny (qVar 0)) (gNameD 6) qYes (qLc false (qiEnum0 (qCons (qVar 1) qNil)) (gTupD 2 (gConsD (gNameD 7) (gConsD (gNameD 8) gNilD))) (qTB (qCall sp__law_drives [] (qCons (qVar 6) (qCons (qVar 8) (qCons (qVar 2) qNil))))) (qVar 7) [7, 8]) [6]) (gNameD 3))
  (qSeq (qAsg qDNew (gNameD 4))
  (qSeq (qFor (qiRng1 (qCons (qCB dLen (qCons (qVar 3) qNil)) qNil)) (gNameD 5)
  (qDrop (qCall sp__law_gets [] (qCons (qVar 3) (qCons (qVar 4) (qCons (qVar 5) (qCons (qLst true qNil) qNil)))))))
  (qRet (qCB dLen (qCons (qVar 4) qNil))))))
theorem dv__law_most {k : Nat} (T : Tx w K mg) {sp__law_drives : DSp} (G__law_drives : FnOk P w K mg base (L2.CX P w) k T.f__law_drives.f T.f__law_drives.fd ["_law_engine", "_law_hand", "_law_date"] (toSp K sp__law_drives)) {sp__law_gets : DSp} (G__law_gets : FnOk P w K mg base (L2.CX P w) k T.f__law_gets.f T.f__law_gets.fd ["_law_wants", "_law_held", "_law_wish", "_law_tried"] (toSp K sp__law_gets)) {p : DSp} (hlen : ∀ ds M Q E, p ds M Q E → ds.length = 3)
    (hs : ∀ ds M Q Ed, upSp p ds M Q Ed → q__law_most sp__law_drives sp__law_gets (fun x _ M => Ed x M) (retE Q) (startD N__law_most ds) M) : FnOk P w K mg base (L2.CX P w) (k + 1) T.f__law_most.f T.f__law_most.fd ["_law_cars", "_law_folk", "_law_date"] (toSp K p) := by
  refine (fn_ok (p := upSp p) T.f__law_most.F sc__law_most (fun ds M Q E ⟨Q0, E0, h, _⟩ => hlen ds M Q0 E0 h) fun cdv A outer s H E hr tk hp => ?_).imp fun _ _ _ _ h => imp_up h
  have nd := sc__law_most.nd
  have hu64 := hr.units
  have hu := Nat.lt_of_le_of_lt (Nat.add_le_add_left (show 1 ≤ 64 by decide) _) hu64
  exact ⟨_, q__law_most sp__law_drives sp__law_gets, (qss_cons (qs_setLcX (own := [("_law_engine", 6)]) false 3 rfl nd (qi_any (qv 0)) (blkOk_by (own := [("_law_engine", 6)]) (N := N__law_most) (sc := defScope s__law_most) (by decide +kernel)) (fun _ _ _ _ _ => ⟨_, (qg_nm 6 nd)⟩) (fun _ _ _ _ _ => ⟨_, qts_nil⟩) (fun _ _ _ _ _ => ⟨_, (q_lcX (own := [("_law_k", 7), ("_law_hand", 8)]) false rfl nd (qi_enum0 rfl T.n_enumerate (qa_cons (qv 1) qa_nil)) (blkOk_by (own := [("_law_k", 7), ("_law_hand", 8)]) (by kernel_rfl)) (fun _ _ _ _ _ => ⟨_, (qg_tup rfl (qgs_cons (qg_nm 7 nd) (qgs_cons (qg_nm 8 nd) qgs_nil)))⟩) (fun _ _ _ _ _ => ⟨_, (qts_one (qt_val (q_call G__law_drives hr takes0 rfl T.f__law_drives.g T.f__law_drives.F.kp T.f__law_drives.b .nil (fun _ => rfl) (qa_cons (qv 6) (qa_cons (qv 8) (qa_cons (qv 2) qa_nil))))))⟩) (fun _ _ _ _ _ => ⟨_, (qv 7)⟩))⟩))
  (qss_cons (qs_setN 4 nd q_dnew)
  (qss_cons (qs_for (ix := [5]) hp rfl (qi_range1 rfl T.n_range (qa_cons (q_callB c_len rfl T.n_len (by decide +kernel) (qa_cons (qv 3) qa_nil)) qa_nil)) (qg_nm 5 nd)
  (qss_one (qs_expr (q_call G__law_gets hr tk rfl T.f__law_gets.g T.f__law_gets.F.kp T.f__law_gets.b .nil (fun _ => rfl) (qa_cons (qv 3) (qa_cons (qv 4) (qa_cons (qv 5) (qa_cons (q_lst true qa_nil) qa_nil))))))))
  (qss_one (qs_ret (q_callB c_len rfl T.n_len (by decide +kernel) (qa_cons (qv 4) qa_nil))))))), hs⟩
def q__law_holds (sp__law_most : DSp) (sp__law_watch : DSp) : DTS :=
  (qSeq (qAsg (qLc false (qiAny (qVar 3)) (gTupD 3 (gConsD (gNameD 11) (gConsD (gNameD 12) (gConsD (gNameD 13) gNilD)))) qYes (qOp (dAdd false) (qOp (dMul false) (qLst false (qCons (qVar 12) qNil)) (qCB dIntX (qCons (qOp (dIs true) (qVar 12) (qC .non)) qNil))) (qVar 13)) [11, 12, 13]) (gNameD 4))
  (qSeq (qAsg (qTup (qCons qDNew (qCons (qLst true qNil) qNil))) (gTupD 2 (gConsD (gNameD 5) (gConsD (gNameD 6) gNilD))))
  (qSeq (qFor (qiAny (qVar 1)) (gNameD 7)
  (qAsg (qVar 7) (gSubD (qVar 5) (qOp dIx (qVar 7) (qC (.int 0))))))
  (qSeq (qFor (qiZipM (qCons (qVar 0) (qCons (qVar 4) qNil))) (gTupD 2 (gConsD (gNameD 8) (gConsD (gNameD 9) gNilD)))
  (qSeq (qDrop (qBM "list" mExt (qVar 6) (qCons (qVar 9) qNil)))
  (qSeq (qIfS (qOr (qTB (qOp (dCmpI fun i j => decide (j < i)) (qCB dLen (qCons (qVar 9) qNil)) (qOp dIx (qVar 8) (qC (.int 3))))) (qNot (qTB (qCB dAll (qCons (qLc false (qiAny (qVar 9)) (gNameD 11) qYes (qOp (dEq false) (qOp dIx (qOp dIx (qVar 5) (qVar 11)) (qC (.int 1))) (qOp dIx (qVar 8) (qC (.int 2)))) [11]) qNil)))))
  (qRet (qC (.bl false)))
  qNext)
  (qIfS (qNot (qTB (qCB dAll (qCons (qLc false (qiAny (qVar 9)) (gNameD 11) qYes (qCall sp__law_watch [] (qCons (qOp dIx (qVar 5) (qVar 11)) (qCons (qVar 2) qNil))) [11]) qNil))))
  (qRet (qC (.bl false)))
  qNext))))
  (qSeq (qIfS (qTB (qOp (dEq true) (qLenSet (qVar 6)) (qCB dLen (qCons (qVar 6) qNil))))
  (qRet (qC (.bl false)))
  qNext)
  (qSeq (qFor (qiZipM (qCons (qVar 0) (qCons (qVar 4) qNil))) (gTupD 2 (gConsD (gNameD 8) (gConsD (gNameD 9) gNilD)))
  (qIfS (qTB (qChain (dCmpI fun i j => decide (i < j)) (dCmpI fun i j => decide (i < j)) (qC (.int 0)) (qCB dLen (qCons (qVar 9) qNil)) (qOp dIx (qVar 8) (qC (.int 3)))))
  (qSeq (qAsg (qLc false (qiAny (qVar 1)) (gNameD 7) (qAnd (qTB (qOp (dEq false) (qOp dIx (qVar 7) (qC (.int 1))) (qOp dIx (qVar 8) (qC (.int 2))))) (qTB (qCall sp__law_watch [] (qCons (qVar 7) (qCons (qVar 2) qNil))))) (qOp dIx (qVar 7) (qC (.int 0))) [7]) (gNameD 10))
  (qIfS (qNot (qTB (qCB dAll (qCons (qLc false (qiAny (qVar 10)) (gNameD 11) qYes (qOp (dIn false) (qVar 11) (qVar 6)) [11]) qNil))))
  (qRet (qC (.bl false)))
  qNext))
  qNext))
  (qRet (qOp (dEq false) (qCB dLen (qCons (qLc false (qiAny (qVar 3)) (gNameD 14) (qTB (qOp (dIs true) (qOp dIx (qVar 14) (qC (.int 1))) (qC .non))) (qC (.int 1)) [14]) qNil)) (qCall sp__law_most [] (qCons (qVar 0) (qCons (qVar 1) (qCons (qVar 2) qNil))))))))))))
theorem dv__law_holds {k : Nat} (T : Tx w K mg) {sp__law_most : DSp} (G__law_most : FnOk P w K mg base (L2.CX P w) k T.f__law_most.f T.f__law_most.fd ["_law_cars", "_law_folk", "_law_date"] (toSp K sp__law_most)) {sp__law_watch : DSp} (G__law_watch : FnOk P w K mg base (L2.CX P w) k T.f__law_watch.f T.f__law_watch.fd ["_law_hand", "_law_date"] (toSp K sp__law_watch)) {p : DSp} (hlen : ∀ ds M Q E, p ds M Q E → ds.length = 4)
    (hs : ∀ ds M Q Ed, upSp p ds M Q Ed → q__law_holds sp__law_most sp__law_watch (fun x _ M => Ed x M) (retE Q) (startD N__law_holds ds) M) : FnOk P w K mg base (L2.CX P w) (k + 1) T.f__law_holds.f T.f__law_holds.fd ["_law_cars", "_law_folk", "_law_date", "_law_told"] (toSp K p) := by
  refine (fn_ok (p := upSp p) T.f__law_holds.F sc__law_holds (fun ds M Q E ⟨Q0, E0, h, _⟩ => hlen ds M Q0 E0 h) fun cdv A outer s H E hr tk hp => ?_).imp fun _ _ _ _ h => imp_up h
  have nd := sc__law_holds.nd
  have hu64 := hr.units
  have hu := Nat.lt_of_le_of_lt (Nat.add_le_add_left (show 1 ≤ 64 by decide) _) hu64
  exact ⟨_, q__law_holds sp__law_most sp__law_watch, (qss_cons (qs_setLcX (own := [("_law_name", 11), ("_law_driver", 12), ("_law_some", 13)]) false 4 rfl nd (qi_any (qv 3)) (blkOk_by (own := [("_law_name", 11), ("_law_driver", 12), ("_law_some", 13)]) (N := N__law_holds) (sc := defScope s__law_holds) (by decide +kernel)) (fun _ _ _ _ _ => ⟨_, (qg_tup rfl (qgs_cons (qg_nm 11 nd) (qgs_cons (qg_nm 12 nd) (qgs_cons (qg_nm 13 nd) qgs_nil))))⟩) (fun _ _ _ _ _ => ⟨_, qts_nil⟩) (fun _ _ _ _ _ => ⟨_, (q_op (o_add false) (q_op (o_mul false) (q_lst false (qa_cons (qv 12) qa_nil)) (q_callTy c_intX rfl T.n_int (by decide +kernel) (qa_cons (q_cmp o_isnot (qv 12) q_non) qa_nil))) (qv 13))⟩))
  (qss_cons (qs_asg (ix := [5, 6]) (q_tup (qa_cons q_dnew (qa_cons (q_lst true qa_nil) qa_nil))) (qg_tup rfl (qgs_cons (qg_nm 5 nd) (qgs_cons (qg_nm 6 nd) qgs_nil))))
  (qss_cons (qs_for (ix := [7]) hp rfl (qi_any (qv 1)) (qg_nm 7 nd)
  (qss_one (qs_asg (ix := []) (qv 7) (qg_sub hu (qv 5) (q_ix hu (qv 7) q_int)))))
  (qss_cons (qs_for (ix := [8, 9]) hp rfl (qi_zipM rfl T.n_zip (qa_cons (qv 0) (qa_cons (qv 4) qa_nil))) (qg_tup rfl (qgs_cons (qg_nm 8 nd) (qgs_cons (qg_nm 9 nd) qgs_nil)))
  (qss_cons (qs_expr (q_bm PySem.F.plainAttrs_list PySem.F.slot_list_extend PySem.F.type_list_extend m_extend (qv 6) (qa_cons (qv 9) qa_nil)))
  (qss_cons (qs_if (QW.t (qw_or (qt_cmp o_gt (q_callB c_len rfl T.n_len (by decide +kernel) (qa_cons (qv 9) qa_nil)) (q_ix hu (qv 8) q_int)) (qw_or1 (qt_not (qt_val (q_callB (c_all rfl) rfl T.n_all (by decide +kernel) (qa_cons (q_lcX (own := [("_law_name", 11)]) false rfl nd (qi_any (qv 9)) (blkOk_by (own := [("_law_name", 11)]) (N := N__law_holds) (sc := defScope s__law_holds) (by decide +kernel)) (fun _ _ _ _ _ => ⟨_, (qg_nm 11 nd)⟩) (fun _ _ _ _ _ => ⟨_, qts_nil⟩) (fun _ _ _ _ _ => ⟨_, (q_cmp (o_eq hu64) (q_ix hu (q_ix hu (qv 5) (qv 11)) q_int) (q_ix hu (qv 8) q_int))⟩)) qa_nil)))))))
  (qss_one (qs_ret q_bl))
  qss_nil)
  (qss_one (qs_if (qt_not (qt_val (q_callB (c_all rfl) rfl T.n_all (by decide +kernel) (qa_cons (q_lcX (own := [("_law_name", 11)]) false rfl nd (qi_any (qv 9)) (blkOk_by (own := [("_law_name", 11)]) (N := N__law_holds) (sc := defScope s__law_holds) (by decide +kernel)) (fun _ _ _ _ _ => ⟨_, (qg_nm 11 nd)⟩) (fun _ _ _ _ _ => ⟨_, qts_nil⟩) (fun _ _ _ _ _ => ⟨_, (q_call G__law_watch hr takes0 rfl T.f__law_watch.g T.f__law_watch.F.kp T.f__law_watch.b .nil (fun _ => rfl) (qa_cons (q_ix hu (qv 5) (qv 11)) (qa_cons (qv 2) qa_nil)))⟩)) qa_nil))))
  (qss_one (qs_ret q_bl))
  qss_nil)))))
  (qss_cons (qs_if (qt_cmp (o_ne hu64) (q_lenSet rfl rfl T.n_len rfl T.n_set (qv 6)) (q_callB c_len rfl T.n_len (by decide +kernel) (qa_cons (qv 6) qa_nil)))
  (qss_one (qs_ret q_bl))
  qss_nil)
  (qss_cons (qs_for (ix := [8, 9]) hp rfl (qi_zipM rfl T.n_zip (qa_cons (qv 0) (qa_cons (qv 4) qa_nil))) (qg_tup rfl (qgs_cons (qg_nm 8 nd) (qgs_cons (qg_nm 9 nd) qgs_nil)))
  (qss_one (qs_if (qt_chain o_lt o_lt q_int (q_callB c_len rfl T.n_len (by decide +kernel) (qa_cons (qv 9) qa_nil)) (q_ix hu (qv 8) q_int))
  (qss_cons (qs_setLcX (own := [("_law_hand", 7)]) false 10 rfl nd (qi_any (qv 1)) (blkOk_by (own := [("_law_hand", 7)]) (N := N__law_holds) (sc := defScope s__law_holds) (by decide +kernel)) (fun _ _ _ _ _ => ⟨_, (qg_nm 7 nd)⟩) (fun _ _ _ _ _ => ⟨_, (qts_one (QW.t (qw_and (qt_cmp (o_eq hu64) (q_ix hu (qv 7) q_int) (q_ix hu (qv 8) q_int)) (qw_and1 (qt_val (q_call G__law_watch hr takes0 rfl T.f__law_watch.g T.f__law_watch.F.kp T.f__law_watch.b .nil (fun _ => rfl) (qa_cons (qv 7) (qa_cons (qv 2) qa_nil))))))))⟩) (fun _ _ _ _ _ => ⟨_, (q_ix hu (qv 7) q_int)⟩))
  (qss_one (qs_if (qt_not (qt_val (q_callB (c_all rfl) rfl T.n_all (by decide +kernel) (qa_cons (q_lcX (own := [("_law_name", 11)]) false rfl nd (qi_any (qv 10)) (blkOk_by (own := [("_law_name", 11)]) (N := N__law_holds) (sc := defScope s__law_holds) (by decide +kernel)) (fun _ _ _ _ _ => ⟨_, (qg_nm 11 nd)⟩) (fun _ _ _ _ _ => ⟨_, qts_nil⟩) (fun _ _ _ _ _ => ⟨_, (q_cmp (o_in hu) (qv 11) (qv 6))⟩)) qa_nil))))
  (qss_one (qs_ret q_bl))
  qss_nil)))
  qss_nil)))
  (qss_one (qs_ret (q_cmp (o_eq hu64) (q_callB c_len rfl T.n_len (by decide +kernel) (qa_cons (q_lcX (own := [("_law_one", 14)]) false rfl nd (qi_any (qv 3)) (blkOk_by (own := [("_law_one", 14)]) (N := N__law_holds) (sc := defScope s__law_holds) (by decide +kernel)) (fun _ _ _ _ _ => ⟨_, (qg_nm 14 nd)⟩) (fun _ _ _ _ _ => ⟨_, (qts_one (qt_cmp o_isnot (q_ix hu (qv 14) q_int) q_non))⟩) (fun _ _ _ _ _ => ⟨_, q_int⟩)) qa_nil)) (q_call G__law_most hr tk rfl T.f__law_most.g T.f__law_most.F.kp T.f__law_most.b .nil (fun _ => rfl) (qa_cons (qv 0) (qa_cons (qv 1) (qa_cons (qv 2) qa_nil))))))))))))), hs⟩
def q_law (c_Ground : Addr) (sp__law_bag : DSp) (sp__law_engines : DSp) (sp__law_ground : DSp) (sp__law_hands : DSp) (sp__law_holds : DSp) (sp__law_take : DSp) (sp_crews : DSp) : DTS :=
  (qSeq (qFor (qiRng1 (qCons (qCB dMax2 (qCons (qC (.int 2)) (qCons (qCB dMin2 (qCons (qC (.int 4)) (qCons (qOp (dInt CDiv fun i j => i / j) (qCB dLen (qCons (qVar 0) qNil)) (qC (.int 2))) qNil))) qNil))) qNil)) (gNameD 1)
  (qSeq (qPar 2 3 (qCons (qCall sp__law_bag [] (qCons (qVar 0) (qCons (qOp (dInt CMul fun i j => i * j) (qC (.int 2)) (qVar 1)) qNil))) (qCons (qCall sp__law_bag [] (qCons (qVar 0) (qCons (qOp (dAdd false) (qOp (dInt CMul fun i j => i * j) (qC (.int 2)) (qVar 1)) (qC (.int 1))) qNil))) qNil)))
  (qSeq (qAsg (qFld c_Ground F_Ground 3 (qCall sp__law_ground [] (qCons (qVar 2) (qCons (qC (.int 4)) qNil)))) (gNameD 4))
  (qSeq (qAsg (qCall sp__law_engines [] (qCons (qVar 2) (qCons (qVar 4) (qCons (qC (.int 24)) qNil)))) (gNameD 5))
  (qSeq (qAsg (qCall sp__law_hands [] (qCons (qVar 3) (qCons (qVar 4) (qCons (qOp dIx (qTup (qCons (qC (.int 60)) (qCons (qC (.int 12)) qNil))) (qCall sp__law_take [] (qCons (qVar 2) (qCons (qC (.int 2)) qNil)))) qNil)))) (gNameD 6))
  (qSeq (qAsg (qLst true qNil) (gNameD 7))
  (qSeq (qFor (qiRng1 (qCons (qC (.int 7)) qNil)) (gNameD 8)
  (qSeq (qAsg (qCall sp_crews [] (qCons (qVar 5) (qCons (qVar 6) (qCons (qVar 8) qNil)))) (gNameD 9))
  (qSeq (qIfS (qNot (qTB (qCall sp__law_holds [] (qCons (qVar 5) (qCons (qVar 6) (qCons (qVar 8) (qCons (qVar 9) qNil)))))))
  (qRet (qC (.bl false)))
  qNext)
  (qDrop (qBM "list" mApp (qVar 7) (qCons (qTup (qCons (qVar 8) (qCons (qVar 9) (qCons (qLc false (qiAny (qVar 9)) (gTupD 3 (gConsD (gNameD 12) (gConsD (gNameD 13) (gConsD (gNameD 14) gNilD)))) qYes (qTup (qCons (qVar 12) (qCons (qVar 13) (qCons (qCB (dList false) (qCons (qVar 14) qNil)) qNil)))) [12, 13, 14]) qNil)))) qNil))))))
  (qFor (qiAny (qUn (dRev false) (qVar 7))) (gTupD 3 (gConsD (gNameD 8) (gConsD (gNameD 9) (gConsD (gNameD 10) gNilD))))
  (qSeq (qAsg (qCall sp_crews [] (qCons (qVar 5) (qCons (qVar 6) (qCons (qVar 8) qNil)))) (gNameD 11))
  (qIfS (qOr (qTB (qOp (dEqR 4 true) (qVar 9) (qVar 10))) (qNot (qTB (qCall sp__law_holds [] (qCons (qVar 5) (qCons (qVar 6) (qCons (qVar 8) (qCons (qVar 11) qNil))))))))
  (qRet (qC (.bl false)))
  qNext))))))))))
  (qRet (qC (.bl true))))
theorem dv_law {k : Nat} (T : Tx w K mg) {sp__law_bag : DSp} (G__law_bag : FnOk P w K mg base (L2.CX P w) k T.f__law_bag.f T.f__law_bag.fd ["_law_script", "_law_at"] (toSp K sp__law_bag)) {sp__law_engines : DSp} (G__law_engines : FnOk P w K mg base (L2.CX P w) k T.f__law_engines.f T.f__law_engines.fd ["_law_bag_here", "_law_stations", "_law_most_here"] (toSp K sp__law_engines)) {sp__law_ground : DSp} (G__law_ground : FnOk P w K mg base (L2.CX P w) k T.f__law_ground.f T.f__law_ground.fd ["_law_bag_here", "_law_most_here"] (toSp K sp__law_ground)) {sp__law_hands : DSp} (G__law_hands : FnOk P w K mg base (L2.CX P w) k T.f__law_hands.f T.f__law_hands.fd ["_law_bag_here", "_law_stations", "_law_most_here"] (toSp K sp__law_hands)) {sp__law_holds : DSp} (G__law_holds : FnOk P w K mg base (L2.CX P w) k T.f__law_holds.f T.f__law_holds.fd ["_law_cars", "_law_folk", "_law_date", "_law_told"] (toSp K sp__law_holds)) {sp__law_take : DSp} (G__law_take : FnOk P w K mg base (L2.CX P w) k T.f__law_take.f T.f__law_take.fd ["_law_bag_here", "_law_many"] (toSp K sp__law_take)) {sp_crews : DSp} (G_crews : FnOk P w K mg base (L2.CX P w) k T.f_crews.f T.f_crews.fd ["engines", "hands", "day"] (toSp K sp_crews)) {p : DSp} (hlen : ∀ ds M Q E, p ds M Q E → ds.length = 1)
    (hs : ∀ ds M Q Ed, upSp p ds M Q Ed → q_law T.c_Ground.C sp__law_bag sp__law_engines sp__law_ground sp__law_hands sp__law_holds sp__law_take sp_crews (fun x _ M => Ed x M) (retE Q) (startD N_law ds) M) : FnOk P w K mg base (L2.CX P w) (k + 1) T.f_law.f T.f_law.fd ["_law_script"] (toSp K p) := by
  refine (fn_ok (p := upSp p) T.f_law.F sc_law (fun ds M Q E ⟨Q0, E0, h, _⟩ => hlen ds M Q0 E0 h) fun cdv A outer s H E hr tk hp => ?_).imp fun _ _ _ _ h => imp_up h
  have nd := sc_law.nd
  have hu64 := hr.units
  have hu := Nat.lt_of_le_of_lt (Nat.add_le_add_left (show 1 ≤ 64 by decide) _) hu64
  exact ⟨_, q_law T.c_Ground.C sp__law_bag sp__law_engines sp__law_ground sp__law_hands sp__law_holds sp__law_take sp_crews, (qss_cons (qs_for (ix := [1]) hp rfl (qi_range1 rfl T.n_range (qa_cons (q_callB (c_max2 rfl) rfl T.n_max (by decide +kernel) (qa_cons q_int (qa_cons (q_callB (c_min2 rfl) rfl T.n_min (by decide +kernel) (qa_cons q_int (qa_cons (q_op o_fdiv (q_callB c_len rfl T.n_len (by decide +kernel) (qa_cons (qv 0) qa_nil)) q_int) qa_nil))) qa_nil))) qa_nil)) (qg_nm 1 nd)
  (qss_cons (qs_parN 2 3 rfl nd (qa_cons (q_call G__law_bag hr tk rfl T.f__law_bag.g T.f__law_bag.F.kp T.f__law_bag.b .nil (fun _ => rfl) (qa_cons (qv 0) (qa_cons (q_op o_mulI q_int (qv 1)) qa_nil))) (qa_cons (q_call G__law_bag hr tk rfl T.f__law_bag.g T.f__law_bag.F.kp T.f__law_bag.b .nil (fun _ => rfl) (qa_cons (qv 0) (qa_cons (q_op (o_add false) (q_op o_mulI q_int (qv 1)) q_int) qa_nil))) qa_nil)))
  (qss_cons (qs_setN 4 nd (q_fld T.c_Ground.cl (T.c_Ground.no _ (by simp)) (q_call G__law_ground hr tk rfl T.f__law_ground.g T.f__law_ground.F.kp T.f__law_ground.b .nil (fun _ => rfl) (qa_cons (qv 2) (qa_cons q_int qa_nil))) (fs := F_Ground) (i := 3) (by decide +kernel)))
  (qss_cons (qs_setN 5 nd (q_call G__law_engines hr tk rfl T.f__law_engines.g T.f__law_engines.F.kp T.f__law_engines.b .nil (fun _ => rfl) (qa_cons (qv 2) (qa_cons (qv 4) (qa_cons q_int qa_nil)))))
  (qss_cons (qs_setN 6 nd (q_call G__law_hands hr tk rfl T.f__law_hands.g T.f__law_hands.F.kp T.f__law_hands.b .nil (fun _ => rfl) (qa_cons (qv 3) (qa_cons (qv 4) (qa_cons (q_ix hu (q_tup (qa_cons q_int (qa_cons q_int qa_nil))) (q_call G__law_take hr tk rfl T.f__law_take.g T.f__law_take.F.kp T.f__law_take.b .nil (fun _ => rfl) (qa_cons (qv 2) (qa_cons q_int qa_nil)))) qa_nil)))))
  (qss_cons (qs_setN 7 nd (q_lst true qa_nil))
  (qss_cons (qs_for (ix := [8]) hp rfl (qi_range1 rfl T.n_range (qa_cons q_int qa_nil)) (qg_nm 8 nd)
  (qss_cons (qs_setN 9 nd (q_call G_crews hr tk rfl T.f_crews.g T.f_crews.F.kp T.f_crews.b .nil (fun _ => rfl) (qa_cons (qv 5) (qa_cons (qv 6) (qa_cons (qv 8) qa_nil)))))
  (qss_cons (qs_if (qt_not (qt_val (q_call G__law_holds hr tk rfl T.f__law_holds.g T.f__law_holds.F.kp T.f__law_holds.b .nil (fun _ => rfl) (qa_cons (qv 5) (qa_cons (qv 6) (qa_cons (qv 8) (qa_cons (qv 9) qa_nil)))))))
  (qss_one (qs_ret q_bl))
  qss_nil)
  (qss_one (qs_expr (q_bm PySem.F.plainAttrs_list PySem.F.slot_list_append PySem.F.type_list_append m_append (qv 7) (qa_cons (q_tup (qa_cons (qv 8) (qa_cons (qv 9) (qa_cons (q_lcX (own := [("_law_name", 12), ("_law_driver", 13), ("_law_some", 14)]) false rfl nd (qi_any (qv 9)) (blkOk_by (own := [("_law_name", 12), ("_law_driver", 13), ("_law_some", 14)]) (N := N_law) (sc := defScope s_law) (by decide +kernel)) (fun _ _ _ _ _ => ⟨_, (qg_tup rfl (qgs_cons (qg_nm 12 nd) (qgs_cons (qg_nm 13 nd) (qgs_cons (qg_nm 14 nd) qgs_nil))))⟩) (fun _ _ _ _ _ => ⟨_, qts_nil⟩) (fun _ _ _ _ _ => ⟨_, (q_tup (qa_cons (qv 12) (qa_cons (qv 13) (qa_cons (q_callTy (c_list false) rfl T.n_list (by decide +kernel) (qa_cons (qv 14) qa_nil)) qa_nil))))⟩)) qa_nil)))) qa_nil)))))))
  (qss_one (qs_for (ix := [8, 9, 10]) hp rfl (qi_any (q_rev false (qv 7))) (qg_tup rfl (qgs_cons (qg_nm 8 nd) (qgs_cons (qg_nm 9 nd) (qgs_cons (qg_nm 10 nd) qgs_nil))))
  (qss_cons (qs_setN 11 nd (q_call G_crews hr tk rfl T.f_crews.g T.f_crews.F.kp T.f_crews.b .nil (fun _ => rfl) (qa_cons (qv 5) (qa_cons (qv 6) (qa_cons (qv 8) qa_nil)))))
  (qss_one (qs_if (QW.t (qw_or (qt_cmp (o_neR 4 hu64) (qv 9) (qv 10)) (qw_or1 (qt_not (qt_val (q_call G__law_holds hr tk rfl T.f__law_holds.g T.f__law_holds.F.kp T.f__law_holds.b .nil (fun _ => rfl) (qa_cons (qv 5) (qa_cons (qv 6) (qa_cons (qv 8) (qa_cons (qv 11) qa_nil))))))))))
  (qss_one (qs_ret q_bl))
  qss_nil))))))))))))
  (qss_one (qs_ret q_bl))), hs⟩
end
theorem all_mk {l : PySem.W.OpenLaw} {w : World} {K : PySem.W.Frag} {h : Heap} {mg : Str → Option Value} {fa f0 f1 f2 f3 f4 f5 f6 f7 f8 f9 f10 f11 f12 f13 f14 f15 f16 f17 f18 f19 f20 f21 f22 f23 f24 f25 f26 f27 f28 f29 : Addr} (X : K.In h) (G : h.Ns mainGlobals mg) (hfa : mg "law" = some (.ref fa))
    {od0 an0 od1 an1 od2 an2 od3 an3 od4 an4 od5 an5 od6 an6 od7 an7 od8 an8 od9 an9 od10 an10 od11 an11 od12 an12 od13 an13 od14 an14 od15 an15 od16 an16 od17 an17 od18 an18 od19 an19 od20 an20 od21 an21 od22 an22 od23 an23 od24 an24 od25 an25 od26 an26 od27 an27 od28 an28 od29 an29 : Option Addr} {sl0 sl1 sl2 sl3 sl4 sl5 sl6 sl7 sl8 sl9 sl10 sl11 sl12 sl13 sl14 sl15 sl16 sl17 sl18 sl19 sl20 sl21 sl22 sl23 sl24 sl25 sl26 sl27 sl28 sl29 : Array (Option Value)} {oc0 kV0 dc0 pm0 cd0 ct0 oc1 kV1 dc1 pm1 cd1 ct1 oc2 kV2 dc2 pm2 cd2 ct2 oc3 kV3 dc3 pm3 cd3 ct3 oc4 kV4 dc4 pm4 cd4 ct4 oc5 kV5 dc5 pm5 cd5 ct5 oc6 kV6 dc6 pm6 cd6 ct6 oc7 kV7 dc7 pm7 cd7 ct7 oc8 kV8 dc8 pm8 cd8 ct8 oc9 kV9 dc9 pm9 cd9 ct9 oc10 kV10 dc10 pm10 cd10 ct10 oc11 kV11 dc11 pm11 cd11 ct11 oc12 kV12 dc12 pm12 cd12 ct12 oc13 kV13 dc13 pm13 cd13 ct13 oc14 kV14 dc14 pm14 cd14 ct14 oc15 kV15 dc15 pm15 cd15 ct15 oc16 kV16 dc16 pm16 cd16 ct16 oc17 kV17 dc17 pm17 cd17 ct17 oc18 kV18 dc18 pm18 cd18 ct18 oc19 kV19 dc19 pm19 cd19 ct19 oc20 kV20 dc20 pm20 cd20 ct20 oc21 kV21 dc21 pm21 cd21 ct21 oc22 kV22 dc22 pm22 cd22 ct22 oc23 kV23 dc23 pm23 cd23 ct23 oc24 kV24 dc24 pm24 cd24 ct24 oc25 kV25 dc25 pm25 cd25 ct25 oc26 kV26 dc26 pm26 cd26 ct26 oc27 kV27 dc27 pm27 cd27 ct27 oc28 kV28 dc28 pm28 cd28 ct28 oc29 kV29 dc29 pm29 cd29 ct29 : Value}
    {oC0 : Addr} (oa0 : PySem.W.nsIn K mainGlobals "Ground" = some (some (.ref oC0)))
    (opg0 : PySem.W.plainGet K oC0 Str.empty = true)
    (ohd0 : PySem.W.hasDictIn K oC0 = true)
    (opo0 : PySem.W.plainOver K oC0 = true)
    (osa0 : PySem.W.findIn K (.ref oC0) "__setattr__" = some (some (.builtin "object.__setattr__")))
    (on0_0 : PySem.W.findIn K (.ref oC0) "risks" = some none)
    (on1_0 : PySem.W.findIn K (.ref oC0) "places" = some none)
    (on2_0 : PySem.W.findIn K (.ref oC0) "roads" = some none)
    (on3_0 : PySem.W.findIn K (.ref oC0) "stations" = some none)
    (omk0 : PySem.W.makesIn K oC0 = true)
    (okc0 : PySem.W.keepIn K (.ref oC0) = true)
    (a0 : PySem.W.nsIn K mainGlobals "is_whole" = some (some (.ref f0)))
    (l0 : K.lookup f0 = some ⟨oc0, od0, .func (PySem.W.fnOf "is_whole" "is_whole" (defArgs s_is_whole) (defBody s_is_whole) (defScope s_is_whole) .none kV0 dc0 pm0 an0 cd0 ct0), sl0⟩) (c0 : PySem.W.codeIn K cd0 "is_whole" = true) (k0 : PySem.W.keepIn K (.ref f0) = true)
    (a1 : PySem.W.nsIn K mainGlobals "is_name" = some (some (.ref f1)))
    (l1 : K.lookup f1 = some ⟨oc1, od1, .func (PySem.W.fnOf "is_name" "is_name" (defArgs s_is_name) (defBody s_is_name) (defScope s_is_name) .none kV1 dc1 pm1 an1 cd1 ct1), sl1⟩) (c1 : PySem.W.codeIn K cd1 "is_name" = true) (k1 : PySem.W.keepIn K (.ref f1) = true)
    (a2 : PySem.W.nsIn K mainGlobals "is_one_of" = some (some (.ref f2)))
    (l2 : K.lookup f2 = some ⟨oc2, od2, .func (PySem.W.fnOf "is_one_of" "is_one_of" (defArgs s_is_one_of) (defBody s_is_one_of) (defScope s_is_one_of) .none kV2 dc2 pm2 an2 cd2 ct2), sl2⟩) (c2 : PySem.W.codeIn K cd2 "is_one_of" = true) (k2 : PySem.W.keepIn K (.ref f2) = true)
    (a3 : PySem.W.nsIn K mainGlobals "is_tuple_of" = some (some (.ref f3)))
    (l3 : K.lookup f3 = some ⟨oc3, od3, .func (PySem.W.fnOf "is_tuple_of" "is_tuple_of" (defArgs s_is_tuple_of) (defBody s_is_tuple_of) (defScope s_is_tuple_of) .none kV3 dc3 pm3 an3 cd3 ct3), sl3⟩) (c3 : PySem.W.codeIn K cd3 "is_tuple_of" = true) (k3 : PySem.W.keepIn K (.ref f3) = true)
    (a4 : PySem.W.nsIn K mainGlobals "gets_holder" = some (some (.ref f4)))
    (l4 : K.lookup f4 = some ⟨oc4, od4, .func (PySem.W.fnOf "gets_holder" "gets_holder" (defArgs s_gets_holder) (defBody s_gets_holder) (defScope s_gets_holder) .none kV4 dc4 pm4 an4 cd4 ct4), sl4⟩) (c4 : PySem.W.codeIn K cd4 "gets_holder" = true) (k4 : PySem.W.keepIn K (.ref f4) = true)
    (a5 : PySem.W.nsIn K mainGlobals "band_of" = some (some (.ref f5)))
    (l5 : K.lookup f5 = some ⟨oc5, od5, .func (PySem.W.fnOf "band_of" "band_of" (defArgs s_band_of) (defBody s_band_of) (defScope s_band_of) .none kV5 dc5 pm5 an5 cd5 ct5), sl5⟩) (c5 : PySem.W.codeIn K cd5 "band_of" = true) (k5 : PySem.W.keepIn K (.ref f5) = true)
    (a6 : PySem.W.nsIn K mainGlobals "paired" = some (some (.ref f6)))
    (l6 : K.lookup f6 = some ⟨oc6, od6, .func (PySem.W.fnOf "paired" "paired" (defArgs s_paired) (defBody s_paired) (defScope s_paired) .none kV6 dc6 pm6 an6 cd6 ct6), sl6⟩) (c6 : PySem.W.codeIn K cd6 "paired" = true) (k6 : PySem.W.keepIn K (.ref f6) = true)
    (a7 : PySem.W.nsIn K mainGlobals "is_on_watch" = some (some (.ref f7)))
    (l7 : K.lookup f7 = some ⟨oc7, od7, .func (PySem.W.fnOf "is_on_watch" "is_on_watch" (defArgs s_is_on_watch) (defBody s_is_on_watch) (defScope s_is_on_watch) .none kV7 dc7 pm7 an7 cd7 ct7), sl7⟩) (c7 : PySem.W.codeIn K cd7 "is_on_watch" = true) (k7 : PySem.W.keepIn K (.ref f7) = true)
    (a8 : PySem.W.nsIn K mainGlobals "can_drive" = some (some (.ref f8)))
    (l8 : K.lookup f8 = some ⟨oc8, od8, .func (PySem.W.fnOf "can_drive" "can_drive" (defArgs s_can_drive) (defBody s_can_drive) (defScope s_can_drive) .none kV8 dc8 pm8 an8 cd8 ct8), sl8⟩) (c8 : PySem.W.codeIn K cd8 "can_drive" = true) (k8 : PySem.W.keepIn K (.ref f8) = true)
    (a9 : PySem.W.nsIn K mainGlobals "drivers_for" = some (some (.ref f9)))
    (l9 : K.lookup f9 = some ⟨oc9, od9, .func (PySem.W.fnOf "drivers_for" "drivers_for" (defArgs s_drivers_for) (defBody s_drivers_for) (defScope s_drivers_for) .none kV9 dc9 pm9 an9 cd9 ct9), sl9⟩) (c9 : PySem.W.codeIn K cd9 "drivers_for" = true) (k9 : PySem.W.keepIn K (.ref f9) = true)
    (a10 : PySem.W.nsIn K mainGlobals "crews" = some (some (.ref f10)))
    (l10 : K.lookup f10 = some ⟨oc10, od10, .func (PySem.W.fnOf "crews" "crews" (defArgs s_crews) (defBody s_crews) (defScope s_crews) .none kV10 dc10 pm10 an10 cd10 ct10), sl10⟩) (c10 : PySem.W.codeIn K cd10 "crews" = true) (k10 : PySem.W.keepIn K (.ref f10) = true)
    (a11 : PySem.W.nsIn K mainGlobals "is_place" = some (some (.ref f11)))
    (l11 : K.lookup f11 = some ⟨oc11, od11, .func (PySem.W.fnOf "is_place" "is_place" (defArgs s_is_place) (defBody s_is_place) (defScope s_is_place) .none kV11 dc11 pm11 an11 cd11 ct11), sl11⟩) (c11 : PySem.W.codeIn K cd11 "is_place" = true) (k11 : PySem.W.keepIn K (.ref f11) = true)
    (a12 : PySem.W.nsIn K mainGlobals "places_fault" = some (some (.ref f12)))
    (l12 : K.lookup f12 = some ⟨oc12, od12, .func (PySem.W.fnOf "places_fault" "places_fault" (defArgs s_places_fault) (defBody s_places_fault) (defScope s_places_fault) .none kV12 dc12 pm12 an12 cd12 ct12), sl12⟩) (c12 : PySem.W.codeIn K cd12 "places_fault" = true) (k12 : PySem.W.keepIn K (.ref f12) = true)
    (a13 : PySem.W.nsIn K mainGlobals "is_road" = some (some (.ref f13)))
    (l13 : K.lookup f13 = some ⟨oc13, od13, .func (PySem.W.fnOf "is_road" "is_road" (defArgs s_is_road) (defBody s_is_road) (defScope s_is_road) .none kV13 dc13 pm13 an13 cd13 ct13), sl13⟩) (c13 : PySem.W.codeIn K cd13 "is_road" = true) (k13 : PySem.W.keepIn K (.ref f13) = true)
    (a14 : PySem.W.nsIn K mainGlobals "roads_fault" = some (some (.ref f14)))
    (l14 : K.lookup f14 = some ⟨oc14, od14, .func (PySem.W.fnOf "roads_fault" "roads_fault" (defArgs s_roads_fault) (defBody s_roads_fault) (defScope s_roads_fault) .none kV14 dc14 pm14 an14 cd14 ct14), sl14⟩) (c14 : PySem.W.codeIn K cd14 "roads_fault" = true) (k14 : PySem.W.keepIn K (.ref f14) = true)
    (a15 : PySem.W.nsIn K mainGlobals "stations_fault" = some (some (.ref f15)))
    (l15 : K.lookup f15 = some ⟨oc15, od15, .func (PySem.W.fnOf "stations_fault" "stations_fault" (defArgs s_stations_fault) (defBody s_stations_fault) (defScope s_stations_fault) .none kV15 dc15 pm15 an15 cd15 ct15), sl15⟩) (c15 : PySem.W.codeIn K cd15 "stations_fault" = true) (k15 : PySem.W.keepIn K (.ref f15) = true)
    (a16 : PySem.W.nsIn K mainGlobals "need" = some (some (.ref f16)))
    (l16 : K.lookup f16 = some ⟨oc16, od16, .func (PySem.W.fnOf "need" "need" (defArgs s_need) (defBody s_need) (defScope s_need) .none kV16 dc16 pm16 an16 cd16 ct16), sl16⟩) (c16 : PySem.W.codeIn K cd16 "need" = true) (k16 : PySem.W.keepIn K (.ref f16) = true)
    (a17 : PySem.W.findIn K (.ref oC0) "__init__" = some (some (.ref f17))) (b17 : PySem.W.isFn K (.ref f17) = true)
    (l17 : K.lookup f17 = some ⟨oc17, od17, .func (PySem.W.fnOf "__init__" "Ground.__init__" (defArgs s_Ground___init__) (defBody s_Ground___init__) (defScope s_Ground___init__) .none kV17 dc17 pm17 an17 cd17 ct17), sl17⟩) (c17 : PySem.W.codeIn K cd17 "Ground.__init__" = true) (k17 : PySem.W.keepIn K (.ref f17) = true)
    (a18 : PySem.W.nsIn K mainGlobals "_law_bag" = some (some (.ref f18)))
    (l18 : K.lookup f18 = some ⟨oc18, od18, .func (PySem.W.fnOf "_law_bag" "_law_bag" (defArgs s__law_bag) (defBody s__law_bag) (defScope s__law_bag) .none kV18 dc18 pm18 an18 cd18 ct18), sl18⟩) (c18 : PySem.W.codeIn K cd18 "_law_bag" = true) (k18 : PySem.W.keepIn K (.ref f18) = true)
    (a19 : PySem.W.nsIn K mainGlobals "_law_take" = some (some (.ref f19)))
    (l19 : K.lookup f19 = some ⟨oc19, od19, .func (PySem.W.fnOf "_law_take" "_law_take" (defArgs s__law_take) (defBody s__law_take) (defScope s__law_take) .none kV19 dc19 pm19 an19 cd19 ct19), sl19⟩) (c19 : PySem.W.codeIn K cd19 "_law_take" = true) (k19 : PySem.W.keepIn K (.ref f19) = true)
    (a20 : PySem.W.nsIn K mainGlobals "_law_names" = some (some (.ref f20)))
    (l20 : K.lookup f20 = some ⟨oc20, od20, .func (PySem.W.fnOf "_law_names" "_law_names" (defArgs s__law_names) (defBody s__law_names) (defScope s__law_names) .none kV20 dc20 pm20 an20 cd20 ct20), sl20⟩) (c20 : PySem.W.codeIn K cd20 "_law_names" = true) (k20 : PySem.W.keepIn K (.ref f20) = true)
    (a21 : PySem.W.nsIn K mainGlobals "_law_ground" = some (some (.ref f21)))
    (l21 : K.lookup f21 = some ⟨oc21, od21, .func (PySem.W.fnOf "_law_ground" "_law_ground" (defArgs s__law_ground) (defBody s__law_ground) (defScope s__law_ground) .none kV21 dc21 pm21 an21 cd21 ct21), sl21⟩) (c21 : PySem.W.codeIn K cd21 "_law_ground" = true) (k21 : PySem.W.keepIn K (.ref f21) = true)
    (a22 : PySem.W.nsIn K mainGlobals "_law_engines" = some (some (.ref f22)))
    (l22 : K.lookup f22 = some ⟨oc22, od22, .func (PySem.W.fnOf "_law_engines" "_law_engines" (defArgs s__law_engines) (defBody s__law_engines) (defScope s__law_engines) .none kV22 dc22 pm22 an22 cd22 ct22), sl22⟩) (c22 : PySem.W.codeIn K cd22 "_law_engines" = true) (k22 : PySem.W.keepIn K (.ref f22) = true)
    (a23 : PySem.W.nsIn K mainGlobals "_law_hands" = some (some (.ref f23)))
    (l23 : K.lookup f23 = some ⟨oc23, od23, .func (PySem.W.fnOf "_law_hands" "_law_hands" (defArgs s__law_hands) (defBody s__law_hands) (defScope s__law_hands) .none kV23 dc23 pm23 an23 cd23 ct23), sl23⟩) (c23 : PySem.W.codeIn K cd23 "_law_hands" = true) (k23 : PySem.W.keepIn K (.ref f23) = true)
    (a24 : PySem.W.nsIn K mainGlobals "_law_watch" = some (some (.ref f24)))
    (l24 : K.lookup f24 = some ⟨oc24, od24, .func (PySem.W.fnOf "_law_watch" "_law_watch" (defArgs s__law_watch) (defBody s__law_watch) (defScope s__law_watch) .none kV24 dc24 pm24 an24 cd24 ct24), sl24⟩) (c24 : PySem.W.codeIn K cd24 "_law_watch" = true) (k24 : PySem.W.keepIn K (.ref f24) = true)
    (a25 : PySem.W.nsIn K mainGlobals "_law_drives" = some (some (.ref f25)))
    (l25 : K.lookup f25 = some ⟨oc25, od25, .func (PySem.W.fnOf "_law_drives" "_law_drives" (defArgs s__law_drives) (defBody s__law_drives) (defScope s__law_drives) .none kV25 dc25 pm25 an25 cd25 ct25), sl25⟩) (c25 : PySem.W.codeIn K cd25 "_law_drives" = true) (k25 : PySem.W.keepIn K (.ref f25) = true)
    (a26 : PySem.W.nsIn K mainGlobals "_law_gets" = some (some (.ref f26)))
    (l26 : K.lookup f26 = some ⟨oc26, od26, .func (PySem.W.fnOf "_law_gets" "_law_gets" (defArgs s__law_gets) (defBody s__law_gets) (defScope s__law_gets) .none kV26 dc26 pm26 an26 cd26 ct26), sl26⟩) (c26 : PySem.W.codeIn K cd26 "_law_gets" = true) (k26 : PySem.W.keepIn K (.ref f26) = true)
    (a27 : PySem.W.nsIn K mainGlobals "_law_most" = some (some (.ref f27)))
    (l27 : K.lookup f27 = some ⟨oc27, od27, .func (PySem.W.fnOf "_law_most" "_law_most" (defArgs s__law_most) (defBody s__law_most) (defScope s__law_most) .none kV27 dc27 pm27 an27 cd27 ct27), sl27⟩) (c27 : PySem.W.codeIn K cd27 "_law_most" = true) (k27 : PySem.W.keepIn K (.ref f27) = true)
    (a28 : PySem.W.nsIn K mainGlobals "_law_holds" = some (some (.ref f28)))
    (l28 : K.lookup f28 = some ⟨oc28, od28, .func (PySem.W.fnOf "_law_holds" "_law_holds" (defArgs s__law_holds) (defBody s__law_holds) (defScope s__law_holds) .none kV28 dc28 pm28 an28 cd28 ct28), sl28⟩) (c28 : PySem.W.codeIn K cd28 "_law_holds" = true) (k28 : PySem.W.keepIn K (.ref f28) = true)
    (a29 : PySem.W.nsIn K mainGlobals "law" = some (some (.ref f29)))
    (l29 : K.lookup f29 = some ⟨oc29, od29, .func (PySem.W.fnOf "law" "law" (defArgs s_law) (defBody s_law) (defScope s_law) .none kV29 dc29 pm29 an29 cd29 ct29), sl29⟩) (c29 : PySem.W.codeIn K cd29 "law" = true) (k29 : PySem.W.keepIn K (.ref f29) = true)
    (z0 : PySem.W.nsIn K mainGlobals "ValueError" = some none)
    (z1 : PySem.W.nsIn K mainGlobals "abs" = some none)
    (z2 : PySem.W.nsIn K mainGlobals "all" = some none)
    (z3 : PySem.W.nsIn K mainGlobals "any" = some none)
    (z4 : PySem.W.nsIn K mainGlobals "bool" = some none)
    (z5 : PySem.W.nsIn K mainGlobals "dict" = some none)
    (z6 : PySem.W.nsIn K mainGlobals "enumerate" = some none)
    (z7 : PySem.W.nsIn K mainGlobals "int" = some none)
    (z8 : PySem.W.nsIn K mainGlobals "isinstance" = some none)
    (z9 : PySem.W.nsIn K mainGlobals "len" = some none)
    (z10 : PySem.W.nsIn K mainGlobals "list" = some none)
    (z11 : PySem.W.nsIn K mainGlobals "max" = some none)
    (z12 : PySem.W.nsIn K mainGlobals "min" = some none)
    (z13 : PySem.W.nsIn K mainGlobals "range" = some none)
    (z14 : PySem.W.nsIn K mainGlobals "set" = some none)
    (z15 : PySem.W.nsIn K mainGlobals "sorted" = some none)
    (z16 : PySem.W.nsIn K mainGlobals "str" = some none)
    (z17 : PySem.W.nsIn K mainGlobals "tuple" = some none)
    (z18 : PySem.W.nsIn K mainGlobals "zip" = some none)
    {gt0 : Tok} (lit0 : PySem.W.nsIn K mainGlobals "LETTERS" = some (some (.str (PySem.Str.ofString "abcdefghijklmnopqrstuvwxyz") gt0)))
    {gt1 : Tok} (lit1 : PySem.W.nsIn K mainGlobals "MOST_LETTERS" = some (some (.int (8) gt1)))
    {gt2 : Tok} (lit2 : PySem.W.nsIn K mainGlobals "MOST_MINUTES" = some (some (.int (60) gt2)))
    {gt3 : Tok} (lit3 : PySem.W.nsIn K mainGlobals "MOST_PLACES" = some (some (.int (40) gt3)))
    {gt4 : Tok} (lit4 : PySem.W.nsIn K mainGlobals "MOST_RISK" = some (some (.int (4) gt4)))
    {gt5 : Tok} (lit5 : PySem.W.nsIn K mainGlobals "MOST_ROADS" = some (some (.int (80) gt5)))
    {gt6 : Tok} (lit6 : PySem.W.nsIn K mainGlobals "MOST_STATIONS" = some (some (.int (12) gt6)))
    {xC0 : Addr} (xa0 : PySem.W.nsIn K mainGlobals "NoGround" = some (some (.ref xC0)))
    {xnm0 xq0 : Str} {xN0 : Addr} {xbs0 : List Value} {xsn0 : List Str} {xsub0 : List Value} {xab0 : Bool} {xco0 : Option Bool} {xdd0 : Option Addr} {xm00 xm10 xm20 xm30 xm50 : Option Value} {xf0 : Addr} {xan0 xod0 : Option Addr} {xsl0 : Array (Option Value)} {xoc0 xkV0 xdc0 xpm0 xcd0 xct0 : Value}
    (xL0 : K.lookup xC0 = some (excClassObj xnm0 xq0 xC0 xN0 xbs0 tl_ValueError true xsn0 xsub0 xab0 xco0 xdd0 xm00 xm10 xm20 xm30 xm50 "ValueError.__new__"))
    (xsa0 : PySem.W.findIn K (.ref xC0) "__setattr__" = some (some (.builtin "object.__setattr__")))
    (xi0 : PySem.W.findIn K (.ref xC0) "__init__" = some (some (.ref xf0)))
    (xt0 : PySem.W.typeIn K (.ref xf0) = some (.type "function"))
    (xl0 : K.lookup xf0 = some ⟨xoc0, xod0, .func (PySem.W.fnOf "__init__" "NoGround.__init__" (defArgs s_NoGround_init) (defBody s_NoGround_init) (defScope s_NoGround_init) .none xkV0 xdc0 xpm0 xan0 xcd0 xct0), xsl0⟩)
    (xc0 : PySem.W.codeIn K xcd0 "NoGround.__init__" = true)
    (xkf0 : PySem.W.keepIn K (.ref xf0) = true)
    (xn0_0 : PySem.W.findIn K (.ref xC0) "part" = some none)
    (xn1_0 : PySem.W.findIn K (.ref xC0) "at" = some none)
    (xv0 : PySem.W.findCls K (.type "ValueError") (.type "type") "__init__" = some (.val (.builtin "ValueError.__init__")))
    (xk0 : PySem.W.keepIn K (.ref xC0) = true)
    (xex0 : PySem.W.subIn K (.ref xC0) (.type "BaseException") = some true)
    (xty0 : PySem.W.typeIn K (.ref xC0) = some (.type "type"))
    (xhd0 : PySem.W.hasDictIn K xC0 = true)
    (xss0 : PySem.W.subIn K (.ref xC0) (.ref xC0) = some true)
    (xga0 : PySem.W.findIn K (.ref xC0) "__getattribute__" = some (some (.builtin "BaseException.__getattribute__")))
    (xgg0 : PySem.W.findIn K (.ref xC0) "__getattr__" = some none)
    (xcl0 : PySem.W.findIn K (.ref xC0) "__class__" = some (some (.builtin "object.__class__")))
    (xge0 : PySem.W.specialIn K (.builtin "object.__class__") "__get__" = some (some (.builtin "getset_descriptor.__get__")))
    (xtk0 : PySem.W.takesIn K (.builtin "object.__class__") = some true)
    (xmo0 : PySem.W.mroIn K xC0 (.type "object") = some true)
    {k : Nat} (ok : ∀ (T : Tx w K mg) (base : Heap), FnOk l.prog w K mg base (L2.CX l.prog w) k T.f_law.f T.f_law.fd ["_law_script"] (toSp K spLaw)) :
    ∃ fd : FuncData, (∀ (s : Shared) (v : Value), BindsTo s fd ⟨[v], []⟩ [("_law_script", v)]) ∧ ∀ base : Heap, K.In base → base.Ns mainGlobals mg → FnOk l.prog w K mg base (L2.CX l.prog w) k fa fd ["_law_script"] (toSp K spLaw) := by
  have e : fa = f29 := by
    have e := hfa.symm.trans (PySem.W.mg_of X G a29)
    cases e; rfl
  rw [e]
  refine ⟨_, fun s v => ?_, fun base _ _ => ok {
    c_Ground := ⟨oC0, PySem.W.mg_of X G oa0, ⟨opg0, ohd0, opo0, osa0⟩, List.forall_mem_cons.mpr ⟨on0_0, List.forall_mem_cons.mpr ⟨on1_0, List.forall_mem_cons.mpr ⟨on2_0, List.forall_mem_cons.mpr ⟨on3_0, List.forall_mem_nil _⟩⟩⟩⟩⟩,
    f_is_whole := ⟨f0, _, PySem.W.mg_of X G a0, fun_mk (st := s_is_whole) l0 c0 k0, (fun_mk (st := s_is_whole) l0 c0 k0).binds (ps := ["thing", "low", "high"]) fun _ _ _ _ _ _ us hl => match us, hl with | [_, _, _], _ => rfl⟩,
    f_is_name := ⟨f1, _, PySem.W.mg_of X G a1, fun_mk (st := s_is_name) l1 c1 k1, (fun_mk (st := s_is_name) l1 c1 k1).binds (ps := ["thing"]) fun _ _ _ _ _ _ us hl => match us, hl with | [_], _ => rfl⟩,
    f_is_one_of := ⟨f2, _, PySem.W.mg_of X G a2, fun_mk (st := s_is_one_of) l2 c2 k2, (fun_mk (st := s_is_one_of) l2 c2 k2).binds (ps := ["thing", "texts"]) fun _ _ _ _ _ _ us hl => match us, hl with | [_, _], _ => rfl⟩,
    f_is_tuple_of := ⟨f3, _, PySem.W.mg_of X G a3, fun_mk (st := s_is_tuple_of) l3 c3 k3, (fun_mk (st := s_is_tuple_of) l3 c3 k3).binds (ps := ["thing", "many"]) fun _ _ _ _ _ _ us hl => match us, hl with | [_, _], _ => rfl⟩,
    f_gets_holder := ⟨f4, _, PySem.W.mg_of X G a4, fun_mk (st := s_gets_holder) l4 c4 k4, (fun_mk (st := s_gets_holder) l4 c4 k4).binds (ps := ["wishes", "held", "wish", "tried"]) fun _ _ _ _ _ _ us hl => match us, hl with | [_, _, _, _], _ => rfl⟩,
    f_band_of := ⟨f5, _, PySem.W.mg_of X G a5, fun_mk (st := s_band_of) l5 c5 k5, (fun_mk (st := s_band_of) l5 c5 k5).binds (ps := ["wishes", "pairs", "held"]) fun _ _ _ _ _ _ us hl => match us, hl with | [_, _, _], _ => rfl⟩,
    f_paired := ⟨f6, _, PySem.W.mg_of X G a6, fun_mk (st := s_paired) l6 c6 k6, (fun_mk (st := s_paired) l6 c6 k6).binds (ps := ["wishes"]) fun _ _ _ _ _ _ us hl => match us, hl with | [_], _ => rfl⟩,
    f_is_on_watch := ⟨f7, _, PySem.W.mg_of X G a7, fun_mk (st := s_is_on_watch) l7 c7 k7, (fun_mk (st := s_is_on_watch) l7 c7 k7).binds (ps := ["hand", "day"]) fun _ _ _ _ _ _ us hl => match us, hl with | [_, _], _ => rfl⟩,
    f_can_drive := ⟨f8, _, PySem.W.mg_of X G a8, fun_mk (st := s_can_drive) l8 c8 k8, (fun_mk (st := s_can_drive) l8 c8 k8).binds (ps := ["hand", "day"]) fun _ _ _ _ _ _ us hl => match us, hl with | [_, _], _ => rfl⟩,
    f_drivers_for := ⟨f9, _, PySem.W.mg_of X G a9, fun_mk (st := s_drivers_for) l9 c9 k9, (fun_mk (st := s_drivers_for) l9 c9 k9).binds (ps := ["engine", "hands", "day"]) fun _ _ _ _ _ _ us hl => match us, hl with | [_, _, _], _ => rfl⟩,
    f_crews := ⟨f10, _, PySem.W.mg_of X G a10, fun_mk (st := s_crews) l10 c10 k10, (fun_mk (st := s_crews) l10 c10 k10).binds (ps := ["engines", "hands", "day"]) fun _ _ _ _ _ _ us hl => match us, hl with | [_, _, _], _ => rfl⟩,
    f_is_place := ⟨f11, _, PySem.W.mg_of X G a11, fun_mk (st := s_is_place) l11 c11 k11, (fun_mk (st := s_is_place) l11 c11 k11).binds (ps := ["thing"]) fun _ _ _ _ _ _ us hl => match us, hl with | [_], _ => rfl⟩,
    f_places_fault := ⟨f12, _, PySem.W.mg_of X G a12, fun_mk (st := s_places_fault) l12 c12 k12, (fun_mk (st := s_places_fault) l12 c12 k12).binds (ps := ["thing"]) fun _ _ _ _ _ _ us hl => match us, hl with | [_], _ => rfl⟩,
    f_is_road := ⟨f13, _, PySem.W.mg_of X G a13, fun_mk (st := s_is_road) l13 c13 k13, (fun_mk (st := s_is_road) l13 c13 k13).binds (ps := ["names", "thing"]) fun _ _ _ _ _ _ us hl => match us, hl with | [_, _], _ => rfl⟩,
    f_roads_fault := ⟨f14, _, PySem.W.mg_of X G a14, fun_mk (st := s_roads_fault) l14 c14 k14, (fun_mk (st := s_roads_fault) l14 c14 k14).binds (ps := ["names", "thing"]) fun _ _ _ _ _ _ us hl => match us, hl with | [_, _], _ => rfl⟩,
    f_stations_fault := ⟨f15, _, PySem.W.mg_of X G a15, fun_mk (st := s_stations_fault) l15 c15 k15, (fun_mk (st := s_stations_fault) l15 c15 k15).binds (ps := ["names", "thing"]) fun _ _ _ _ _ _ us hl => match us, hl with | [_, _], _ => rfl⟩,
    f_need := ⟨f16, _, PySem.W.mg_of X G a16, fun_mk (st := s_need) l16 c16 k16, (fun_mk (st := s_need) l16 c16 k16).binds (ps := ["part", "at"]) fun _ _ _ _ _ _ us hl => match us, hl with | [_, _], _ => rfl⟩,
    mk_Ground := ⟨omk0, a17, b17, okc0⟩,
    f_Ground___init__ := ⟨f17, _, ⟨a17, b17, k17⟩, fun_mk (st := s_Ground___init__) l17 c17 k17, (fun_mk (st := s_Ground___init__) l17 c17 k17).binds (ps := ["self", "places", "roads", "stations"]) fun _ _ _ _ _ _ us hl => match us, hl with | [_, _, _, _], _ => rfl⟩,
    f__law_bag := ⟨f18, _, PySem.W.mg_of X G a18, fun_mk (st := s__law_bag) l18 c18 k18, (fun_mk (st := s__law_bag) l18 c18 k18).binds (ps := ["_law_script", "_law_at"]) fun _ _ _ _ _ _ us hl => match us, hl with | [_, _], _ => rfl⟩,
    f__law_take := ⟨f19, _, PySem.W.mg_of X G a19, fun_mk (st := s__law_take) l19 c19 k19, (fun_mk (st := s__law_take) l19 c19 k19).binds (ps := ["_law_bag_here", "_law_many"]) fun _ _ _ _ _ _ us hl => match us, hl with | [_, _], _ => rfl⟩,
    f__law_names := ⟨f20, _, PySem.W.mg_of X G a20, fun_mk (st := s__law_names) l20 c20 k20, (fun_mk (st := s__law_names) l20 c20 k20).binds (ps := ["_law_bag_here", "_law_many"]) fun _ _ _ _ _ _ us hl => match us, hl with | [_, _], _ => rfl⟩,
    f__law_ground := ⟨f21, _, PySem.W.mg_of X G a21, fun_mk (st := s__law_ground) l21 c21 k21, (fun_mk (st := s__law_ground) l21 c21 k21).binds (ps := ["_law_bag_here", "_law_most_here"]) fun _ _ _ _ _ _ us hl => match us, hl with | [_, _], _ => rfl⟩,
    f__law_engines := ⟨f22, _, PySem.W.mg_of X G a22, fun_mk (st := s__law_engines) l22 c22 k22, (fun_mk (st := s__law_engines) l22 c22 k22).binds (ps := ["_law_bag_here", "_law_stations", "_law_most_here"]) fun _ _ _ _ _ _ us hl => match us, hl with | [_, _, _], _ => rfl⟩,
    f__law_hands := ⟨f23, _, PySem.W.mg_of X G a23, fun_mk (st := s__law_hands) l23 c23 k23, (fun_mk (st := s__law_hands) l23 c23 k23).binds (ps := ["_law_bag_here", "_law_stations", "_law_most_here"]) fun _ _ _ _ _ _ us hl => match us, hl with | [_, _, _], _ => rfl⟩,
    f__law_watch := ⟨f24, _, PySem.W.mg_of X G a24, fun_mk (st := s__law_watch) l24 c24 k24, (fun_mk (st := s__law_watch) l24 c24 k24).binds (ps := ["_law_hand", "_law_date"]) fun _ _ _ _ _ _ us hl => match us, hl with | [_, _], _ => rfl⟩,
    f__law_drives := ⟨f25, _, PySem.W.mg_of X G a25, fun_mk (st := s__law_drives) l25 c25 k25, (fun_mk (st := s__law_drives) l25 c25 k25).binds (ps := ["_law_engine", "_law_hand", "_law_date"]) fun _ _ _ _ _ _ us hl => match us, hl with | [_, _, _], _ => rfl⟩,
    f__law_gets := ⟨f26, _, PySem.W.mg_of X G a26, fun_mk (st := s__law_gets) l26 c26 k26, (fun_mk (st := s__law_gets) l26 c26 k26).binds (ps := ["_law_wants", "_law_held", "_law_wish", "_law_tried"]) fun _ _ _ _ _ _ us hl => match us, hl with | [_, _, _, _], _ => rfl⟩,
    f__law_most := ⟨f27, _, PySem.W.mg_of X G a27, fun_mk (st := s__law_most) l27 c27 k27, (fun_mk (st := s__law_most) l27 c27 k27).binds (ps := ["_law_cars", "_law_folk", "_law_date"]) fun _ _ _ _ _ _ us hl => match us, hl with | [_, _, _], _ => rfl⟩,
    f__law_holds := ⟨f28, _, PySem.W.mg_of X G a28, fun_mk (st := s__law_holds) l28 c28 k28, (fun_mk (st := s__law_holds) l28 c28 k28).binds (ps := ["_law_cars", "_law_folk", "_law_date", "_law_told"]) fun _ _ _ _ _ _ us hl => match us, hl with | [_, _, _, _], _ => rfl⟩,
    f_law := ⟨f29, _, PySem.W.mg_of X G a29, fun_mk (st := s_law) l29 c29 k29, (fun_mk (st := s_law) l29 c29 k29).binds (ps := ["_law_script"]) fun _ _ _ _ _ _ us hl => match us, hl with | [_], _ => rfl⟩,
    n_ValueError := PySem.W.mg_none_of X G z0,
    n_abs := PySem.W.mg_none_of X G z1,
    n_all := PySem.W.mg_none_of X G z2,
    n_any := PySem.W.mg_none_of X G z3,
    n_bool := PySem.W.mg_none_of X G z4,
    n_dict := PySem.W.mg_none_of X G z5,
    n_enumerate := PySem.W.mg_none_of X G z6,
    n_int := PySem.W.mg_none_of X G z7,
    n_isinstance := PySem.W.mg_none_of X G z8,
    n_len := PySem.W.mg_none_of X G z9,
    n_list := PySem.W.mg_none_of X G z10,
    n_max := PySem.W.mg_none_of X G z11,
    n_min := PySem.W.mg_none_of X G z12,
    n_range := PySem.W.mg_none_of X G z13,
    n_set := PySem.W.mg_none_of X G z14,
    n_sorted := PySem.W.mg_none_of X G z15,
    n_str := PySem.W.mg_none_of X G z16,
    n_tuple := PySem.W.mg_none_of X G z17,
    n_zip := PySem.W.mg_none_of X G z18,
    g_LETTERS := ⟨gt0, PySem.W.mg_of X G lit0⟩,
    g_MOST_LETTERS := ⟨gt1, PySem.W.mg_of X G lit1⟩,
    g_MOST_MINUTES := ⟨gt2, PySem.W.mg_of X G lit2⟩,
    g_MOST_PLACES := ⟨gt3, PySem.W.mg_of X G lit3⟩,
    g_MOST_RISK := ⟨gt4, PySem.W.mg_of X G lit4⟩,
    g_MOST_ROADS := ⟨gt5, PySem.W.mg_of X G lit5⟩,
    g_MOST_STATIONS := ⟨gt6, PySem.W.mg_of X G lit6⟩,
    c_NoGround := ⟨xC0, xf0, _, PySem.W.mg_of X G xa0, ⟨⟨xnm0, xq0, xN0, xbs0, _, xsn0, xsub0, xab0, xco0, xdd0, xm00, xm10, xm20, xm30, xm50, xL0, by decide +kernel⟩, xsa0, xex0, xty0, xk0⟩, xi0, xt0, (fun_mk (st := s_NoGround_init) xl0 xc0 xkf0), (fun_mk (st := s_NoGround_init) xl0 xc0 xkf0).binds (ps := ["self", "part", "at"]) fun _ _ _ _ _ _ us hl => match us, hl with | [_, _, _], _ => rfl, List.forall_mem_cons.mpr ⟨xn0_0, List.forall_mem_cons.mpr ⟨xn1_0, List.forall_mem_nil _⟩⟩, xhd0, (PySem.W.exm_ref xex0 xhd0 xty0 xss0), xv0, ⟨clsIn_some xhd0, xga0, xgg0, xex0, xcl0, xge0, xtk0, xmo0⟩⟩ } base⟩
  exact .of_eq rfl
end K17
namespace K17
open PySem L2 DL Pair Tx20 Tx21
/-- rows told and kept, and what they hold -/
structure Row2 (M : Mst) (x : Addr) (t : Addr) (rows cps : List D) : Prop where
  at_ : M t = some (.lst rows)
  nt : t ≠ x
  all : All2 (fun r c => ∃ (e : Str) (o : Option Str) (a : Addr) (l : List Str), r = .tup [.str e, optS o, .ref a] ∧ c = .tup [.str e, optS o, .lst (l.map .str)] ∧ M a = some (.lst (l.map .str)) ∧ a ≠ x) rows cps
  le : rows.length ≤ 24
theorem All2.imp' {α β : Type} {P P' : α → β → Prop} {as : List α} {bs : List β} (h : All2 P as bs) (f : ∀ a b, P a b → P' a b) : All2 P' as bs := by
  induction h with
  | nil => exact .nil
  | cons h _ ih => exact .cons (f _ _ h) ih
theorem Row2.mono {M M' : Mst} {x t : Addr} {rows cps : List D} (h : Row2 M x t rows cps) (g : ∀ a o, a ≠ x → M a = some o → M' a = some o) : Row2 M' x t rows cps :=
  ⟨g _ _ h.nt h.at_, h.nt, All2.imp' h.all fun r c ⟨e, o, a, l, h1, h2, h3, h4⟩ => ⟨e, o, a, l, h1, h2, g _ _ h4 h3, h4⟩, h.le⟩
def Kept (M : Mst) (x : Addr) (d : D) : Prop := ∃ (j : Int) (t : Addr) (rows cps : List D), d = .tup [.int j, .ref t, .lst cps] ∧ 0 ≤ j ∧ j ≤ 6 ∧ Row2 M x t rows cps
theorem Kept.mono {M M' : Mst} {x : Addr} {d : D} (h : Kept M x d) (g : ∀ a o, a ≠ x → M a = some o → M' a = some o) : Kept M' x d := by
  obtain ⟨j, t, rows, cps, e, h0, h1, h⟩ := h
  exact ⟨j, t, rows, cps, e, h0, h1, h.mono g⟩
theorem Row2.deep {M : Mst} {x t : Addr} {rows cps : List D} (h : Row2 M x t rows cps) : deepR M 4 (.ref t) = .lst cps ∧ prmL cps = true ∧ dep (.lst cps) ≤ 64 := by
  obtain ⟨at_, _, all, le_⟩ := h
  have e1 : deepR M 4 (.ref t) = .lst (rows.map (deepR M 3)) := by simp only [deepR, at_]
  rw [e1]
  clear at_ e1 le_
  have main : rows.map (deepR M 3) = cps ∧ prmL cps = true ∧ ∀ c ∈ cps, dep c ≤ 5 := by
    induction all with
    | nil => exact ⟨rfl, rfl, fun c h => by cases h⟩
    | cons h _ ih =>
      obtain ⟨e, o, a, l, rfl, rfl, ha, _⟩ := h
      obtain ⟨i1, i2, i3⟩ := ih
      have po : prm (optS o) = true := by cases o <;> rfl
      refine ⟨?_, ?_, fun c hc => ?_⟩
      · rw [List.map_cons, i1]
        congr 1
        show D.tup [deepR M 2 (.str e), deepR M 2 (optS o), deepR M 2 (.ref a)] = _
        rw [deep_prm M 2 (.str e) rfl, deep_prm M 2 (optS o) po, deep_ls ha (prmL_strs _)]
      · simp only [prmL, prm, po, prmL_strs, i2, Bool.and_true]
      · rcases List.mem_cons.mp hc with rfl | hc
        · refine dep_tup (n := 4) fun y hy => ?_
          have : y = .str e ∨ y = optS o ∨ y = .lst (l.map .str) := by simpa using hy
          rcases this with rfl | rfl | rfl
          · show 0 ≤ 4; omega
          · cases o <;> (show 0 ≤ 4; omega)
          · exact Nat.le_trans (dep_strs _) (by omega)
        · exact i3 c hc
  exact ⟨by rw [main.1], main.2.1, Nat.le_trans (dep_lst (n := 5) main.2.2) (by decide)⟩
def cpD (M : Mst) : D → D
  | .tup [a, b, .ref r] => .tup [a, b, .lst (match M r with
    | some (.lst l) => l
    | _ => [])]
  | _ => .non
theorem law_ok (c : Addr) (ds : List D) (M : Mst) (Q : DK) (Ed : DX → Mst → Prop) (h : upSp spLaw ds M Q Ed) : q_law c spBag spCEngines (spLGround c) spCHands spHolds17 spTake spCrews (fun x _ M => Ed x M) (retE Q) (startD N_law ds) M := by
  obtain ⟨Q0, E0, ⟨ns, rfl, hns, hM, k0⟩, kq, _⟩ := h
  have k : ∀ M', Q (.bl true) M' := fun M' => kq _ _ _ (Sub.refl _) (k0 M')
  clear kq k0
  show q_law _ _ _ _ _ _ _ _ _ _ [some (.scr ns), none, none, none, none, none, none, none, none, none, none, none, none, none, none] M
  simp only [q_law, qiRng1, qSeq, qAsg, qTup, qCons, qNil, qOp, qUn, qC, qCall, qVar, qLst, newL_f, qIfS, qTB, qNext, qRet, qDrop, qFor, qCB, qAug, qSl, qPart, qNoPart, gNameD, gSub_eq, dInt_i, dInt0_i, dAdd_i, dCmpI_i, List.set_cons_zero, List.set_cons_succ, List.getElem?_cons_zero, List.getElem?_cons_succ, List.append_nil, z_l0, z_l1, z_l2, z_l3, z_l4, z_l5, z_l6, z_l7, z_l8, z_l9, z_l19, z_l24, z_l25, true_and, len_s', dMin2_i, dMax2_i]
  refine ⟨⟨by decide, by decide⟩, by split <;> split <;> omega, by split <;> split <;> omega, ?_⟩
  generalize hv : (if (if (ns.length : Int) / 2 < 4 then (ns.length : Int) / 2 else 4) > 2 then (if (ns.length : Int) / 2 < 4 then (ns.length : Int) / 2 else 4) else 2) = v
  have v8 : v ≤ 4 := by rw [← hv]; split <;> split <;> omega
  clear hv
  refine loopL_inv (fun i p M' => ∃ x1 x2 x3 x4 x5 x6 x7 x8 x9 x10 x11 x12 x13 x14, p = [some (.scr ns), x1, x2, x3, x4, x5, x6, x7, x8, x9, x10, x11, x12, x13, x14]) (n := v.toNat) (by simp) ?_ ?_ ⟨_, _, _, _, _, _, _, _, _, _, _, _, _, _, rfl⟩
  · rintro i d p M' R hd ⟨x1, x2, x3, x4, x5, x6, x7, x8, x9, x10, x11, x12, x13, x14, rfl⟩ hR
    obtain ⟨hi, rfl⟩ := range_at hd
    refine ⟨trivial, ?_⟩
    simp only [qPar, qSeq, qAsg, qTup, qCons, qNil, qOp, qUn, qC, qCall, qVar, qLst, newL_f, qIfS, qTB, qNext, qRet, qDrop, qFor, qCB, qAug, qSl, qPart, qNoPart, gNameD, gSub_eq, dInt_i, dInt0_i, dAdd_i, dCmpI_i, List.set_cons_zero, List.set_cons_succ, List.getElem?_cons_zero, List.getElem?_cons_succ, List.append_nil, z_l0, z_l1, z_l2, z_l3, z_l4, z_l5, z_l6, z_l7, z_l8, z_l9, z_l19, z_l24, z_l25, true_and]
    refine ⟨.inr ⟨by omega, by omega⟩, ns, 2 * i, rfl, by omega, by omega, fun b hb => ?_⟩
    have mb : put M' b .bag b = some .bag := put_same
    generalize put M' b .bag = M1 at mb
    refine ⟨.inr ⟨by omega, by omega⟩, ns, 2 * i + 1, rfl, by omega, by omega, fun o ho => ?_⟩
    have mo : put M1 o .bag o = some .bag := put_same
    have mb : put M1 o .bag b = some .bag := put_keep mb ho
    generalize put M1 o .bag = M1 at mb mo
    simp only [qSeq, qAsg, qTup, qCons, qNil, qOp, qUn, qC, qCall, qVar, qLst, newL_f, qIfS, qTB, qNext, qRet, qDrop, qFor, qCB, qAug, qSl, qPart, qNoPart, gNameD, gSub_eq, dInt_i, dInt0_i, dAdd_i, dCmpI_i, List.set_cons_zero, List.set_cons_succ, List.getElem?_cons_zero, List.getElem?_cons_succ, List.append_nil, z_l0, z_l1, z_l2, z_l3, z_l4, z_l5, z_l6, z_l7, z_l8, z_l9, z_l19, z_l24, z_l25, true_and]
    refine ⟨b, 4, rfl, mb, by decide, by decide, fun rows zs g hz => ?_⟩
    have zl := g.sl
    simp only [qFld, insD, res_ins, gr3, qSeq, qAsg, qTup, qCons, qNil, qOp, qUn, qC, qCall, qVar, qLst, newL_f, qIfS, qTB, qNext, qRet, qDrop, qFor, qCB, qAug, qSl, qPart, qNoPart, gNameD, gSub_eq, dInt_i, dInt0_i, dAdd_i, dCmpI_i, List.set_cons_zero, List.set_cons_succ, List.getElem?_cons_zero, List.getElem?_cons_succ, List.append_nil, z_l0, z_l1, z_l2, z_l3, z_l4, z_l5, z_l6, z_l7, z_l8, z_l9, z_l19, z_l24, z_l25, true_and]
    refine ⟨rfl, b, zs, rfl, mb, hz, zl, fun es he => ?_⟩
    refine take_call mb (by decide) (by decide) fun r r0 r1 => pick_t r0 (by simpa using r1) fun d hd => ?_
    obtain ⟨mh, rfl, mh0, mh1⟩ : ∃ mh : Int, d = .int mh ∧ 0 ≤ mh ∧ mh ≤ 60 := by
      simp only [List.mem_cons, List.not_mem_nil, or_false] at hd
      rcases hd with rfl | rfl <;> exact ⟨_, rfl, by decide, by decide⟩
    refine ⟨o, zs, mh, rfl, mo, mh0, mh1, hz, zl, fun hs hh => ?_⟩
    have C : ∀ (dt : Int) (M2 : Mst) (R : DK) (E : DX → Mst → Prop), 0 ≤ dt → dt ≤ 6 → (∀ t q M3 H, M2 t = none → (∀ v, v < es.length → M2 (q v) = none) → Sub M2 M3 → ToldC M3 es hs dt H t q → R (.ref t) M3) → spCrews [.tup (es.map egD), .tup (hs.map hnD), .int dt] M2 R E := by
      intro dt M2 R E d0 d1 hR
      have pre : CrewPre es hs dt := ⟨he.le, hh.q, d0, by omega, he.se⟩
      refine ⟨es, hs, dt, rfl, pre, fun H HO t q M3 ht ra sb => ?_⟩
      have lz : (es.zip (H.map (drvName hs))).length = es.length := by simp [HO.len]
      have ol : (othL hs dt (es.zip (H.map (drvName hs))) (H.filterMap (drvName hs))).length = es.length := by rw [othL_len, lz]
      exact hR t q M3 H ht (fun v hv => (ra.fr v (by omega)).1) sb ⟨pre, hh.nd, HO, ra.at_, ra.ls, ol⟩
    simp only [newL_t, qSeq, qAsg, qTup, qCons, qNil, qOp, qUn, qC, qCall, qVar, qLst, newL_f, qIfS, qTB, qNext, qRet, qDrop, qFor, qCB, qAug, qSl, qPart, qNoPart, gNameD, gSub_eq, dInt_i, dInt0_i, dAdd_i, dCmpI_i, List.set_cons_zero, List.set_cons_succ, List.getElem?_cons_zero, List.getElem?_cons_succ, List.append_nil, z_l0, z_l1, z_l2, z_l3, z_l4, z_l5, z_l6, z_l7, z_l8, z_l9, z_l19, z_l24, z_l25, true_and]
    intro l7 h7
    have m7 : put M1 l7 (.lst []) l7 = some (.lst []) := put_same
    generalize put M1 l7 (.lst []) = M1 at m7
    refine ⟨by decide, by decide, ?_⟩
    refine loopL_inv (fun j p M' => ∃ x8 x9 x10 x11 x12 x13 x14 acc, p = [some (.scr ns), some (.int (i : Int)), some (.ref b), some (.ref o), some (.xtp (zs.map .str)), some (.tup (es.map egD)), some (.tup (hs.map hnD)), some (.ref l7), x8, x9, x10, x11, x12, x13, x14] ∧ M' l7 = some (.lst acc) ∧ acc.length = j ∧ ∀ d ∈ acc, Kept M' l7 d) (n := 7) rfl ?_ ?_ ⟨_, _, _, _, _, _, _, [], rfl, m7, rfl, fun d h => by cases h⟩
    · rintro j d p M2 R2 hd ⟨x8, x9, x10, x11, x12, x13, x14, acc, rfl, a7, al, ak⟩ hR2
      obtain ⟨hj, rfl⟩ := range_at (n := 7) hd
      refine ⟨trivial, ?_⟩
      simp only [qNot, qSeq, qAsg, qTup, qCons, qNil, qOp, qUn, qC, qCall, qVar, qLst, newL_f, qIfS, qTB, qNext, qRet, qDrop, qFor, qCB, qAug, qSl, qPart, qNoPart, gNameD, gSub_eq, dInt_i, dInt0_i, dAdd_i, dCmpI_i, List.set_cons_zero, List.set_cons_succ, List.getElem?_cons_zero, List.getElem?_cons_succ, List.append_nil, z_l0, z_l1, z_l2, z_l3, z_l4, z_l5, z_l6, z_l7, z_l8, z_l9, z_l19, z_l24, z_l25, true_and]
      refine C _ _ _ _ (by omega) (by omega) fun t q M3 H ht hq S3 TC => ?_
      refine ⟨es, hs, _, H, t, q, rfl, TC, fun M4 S4 => ?_⟩
      have mt := S4 _ _ TC.rw_
      have ls := fun v o h => S4 _ _ (TC.ls v o h)
      have lD : (H.map (drvName hs)).length = es.length := by rw [List.length_map, TC.ho.len]
      have lr : ((es.zip (H.map (drvName hs))).zipIdx.map (rowD q)).length = es.length := by rw [List.length_map, List.length_zipIdx, List.length_zip, lD]; omega
      have ol := TC.ol
      have le := he.le
      have m74 := S4 _ _ (S3 _ _ a7)
      have rws : ∀ d ∈ (es.zip (H.map (drvName hs))).zipIdx.map (rowD q), ∃ (e : Str) (o : Option Str) (v : Nat) (l : List Str), v < es.length ∧ d = .tup [.str e, optS o, .ref (q v)] ∧ M4 (q v) = some (.lst (l.map .str)) := fun d hd => by
        obtain ⟨y, hy, rfl⟩ := List.mem_map.mp hd
        have hy2 := List.snd_lt_of_mem_zipIdx hy
        rw [List.length_zip, lD, Nat.min_self] at hy2
        have hy2 : y.2 < es.length := by omega
        exact ⟨_, _, _, _, hy2, rfl, ls y.2 _ (List.getElem?_eq_getElem (by rw [ol]; exact hy2))⟩
      generalize (es.zip (H.map (drvName hs))).zipIdx.map (rowD q) = rws_ at mt lr rws
      clear TC ls
      simp only [Bool.not_true, Bool.false_eq_true, if_false, qBM, res_r m74, tyOk, qLc, qiAny, mt, qSeq, qAsg, qTup, qCons, qNil, qOp, qUn, qC, qCall, qVar, qLst, newL_f, qIfS, qTB, qNext, qRet, qDrop, qFor, qCB, qAug, qSl, qPart, qNoPart, gNameD, gSub_eq, dInt_i, dInt0_i, dAdd_i, dCmpI_i, List.set_cons_zero, List.set_cons_succ, List.getElem?_cons_zero, List.getElem?_cons_succ, List.append_nil, z_l0, z_l1, z_l2, z_l3, z_l4, z_l5, z_l6, z_l7, z_l8, z_l9, z_l19, z_l24, z_l25, true_and]
      refine ⟨rfl, fun c1 hc1 => ?_⟩
      refine compL_map hc1 (fun x => some (cpD M4 x)) (fun acc => put_keep mt hc1) (by omega) (fun x hx acc2 R3 hR3 => ?_) ?_
      · obtain ⟨e, o', v, l, hv, rfl, hl⟩ := rws x hx
        have ef : cpD M4 (.tup [.str e, optS o', .ref (q v)]) = .tup [.str e, optS o', .lst (l.map .str)] := by simp only [cpD, hl]
        rw [ef] at hR3
        simp only [gTupD, gConsD, gNilD, wipeD, List.foldl, res_tup, qYes, if_true, qSeq, qAsg, qTup, qCons, qNil, qOp, qUn, qC, qCall, qVar, qLst, newL_f, qIfS, qTB, qNext, qRet, qDrop, qFor, qCB, qAug, qSl, qPart, qNoPart, gNameD, gSub_eq, dInt_i, dInt0_i, dAdd_i, dCmpI_i, List.set_cons_zero, List.set_cons_succ, List.getElem?_cons_zero, List.getElem?_cons_succ, List.append_nil, z_l0, z_l1, z_l2, z_l3, z_l4, z_l5, z_l6, z_l7, z_l8, z_l9, z_l19, z_l24, z_l25, true_and]
        refine ⟨rfl, ?_⟩
        simp only [dList, res_r (put_keep hl hc1), newL_f, qSeq, qAsg, qTup, qCons, qNil, qOp, qUn, qC, qCall, qVar, qLst, newL_f, qIfS, qTB, qNext, qRet, qDrop, qFor, qCB, qAug, qSl, qPart, qNoPart, gNameD, gSub_eq, dInt_i, dInt0_i, dAdd_i, dCmpI_i, List.set_cons_zero, List.set_cons_succ, List.getElem?_cons_zero, List.getElem?_cons_succ, List.append_nil, z_l0, z_l1, z_l2, z_l3, z_l4, z_l5, z_l6, z_l7, z_l8, z_l9, z_l19, z_l24, z_l25, true_and]
        exact hR3
      · simp only [Bool.false_eq_true, if_false, mApp, m74, qSeq, qAsg, qTup, qCons, qNil, qOp, qUn, qC, qCall, qVar, qLst, newL_f, qIfS, qTB, qNext, qRet, qDrop, qFor, qCB, qAug, qSl, qPart, qNoPart, gNameD, gSub_eq, dInt_i, dInt0_i, dAdd_i, dCmpI_i, List.set_cons_zero, List.set_cons_succ, List.getElem?_cons_zero, List.getElem?_cons_succ, List.append_nil, z_l0, z_l1, z_l2, z_l3, z_l4, z_l5, z_l6, z_l7, z_l8, z_l9, z_l19, z_l24, z_l25, true_and]
        refine ⟨by omega, hR2 _ _ ⟨_, _, _, _, _, _, _, acc ++ [.tup [.int (j : Int), .ref t, .lst (rws_.filterMap fun x => some (cpD M4 x))]], rfl, put_same, by simp [al], fun d hd => ?_⟩⟩
        have n7 : ∀ a, M2 a = none → a ≠ l7 := fun a h c => by rw [c, a7] at h; cases h
        rcases List.mem_append.mp hd with hd | hd
        · exact (ak d hd).mono fun a o ha h => by rw [put_ne ha]; exact S4 _ _ (S3 _ _ h)
        · rw [List.mem_singleton] at hd
          subst hd
          refine ⟨j, t, rws_, _, rfl, by omega, by omega, Row2.mono (M := M4) ⟨mt, n7 t ht, ?_, by omega⟩ fun a o ha h => by rw [put_ne ha]; exact h⟩
          rw [List.filterMap_eq_map']
          clear mt lr hR2 hd
          induction rws_ with
          | nil => exact .nil
          | cons r rs ih =>
            rw [List.map_cons]
            refine .cons ?_ (ih fun d hd => rws d (List.mem_cons_of_mem _ hd))
            obtain ⟨e, o', v, l, hv, rfl, hl⟩ := rws r (List.mem_cons_self ..)
            exact ⟨e, o', q v, l, rfl, by simp only [cpD, hl], hl, n7 _ (hq v hv)⟩
    · rintro p M2 ⟨x8, x9, x10, x11, x12, x13, x14, acc, rfl, a7, al, ak⟩
      refine ⟨trivial, ?_⟩
      simp only [qiAny, dRev, res_r a7, newL_f, qSeq, qAsg, qTup, qCons, qNil, qOp, qUn, qC, qCall, qVar, qLst, newL_f, qIfS, qTB, qNext, qRet, qDrop, qFor, qCB, qAug, qSl, qPart, qNoPart, gNameD, gSub_eq, dInt_i, dInt0_i, dAdd_i, dCmpI_i, List.set_cons_zero, List.set_cons_succ, List.getElem?_cons_zero, List.getElem?_cons_succ, List.append_nil, z_l0, z_l1, z_l2, z_l3, z_l4, z_l5, z_l6, z_l7, z_l8, z_l9, z_l19, z_l24, z_l25, true_and]
      refine loopL_inv (fun j p M' => ∃ x8 x9 x10 x11 x12 x13 x14, p = [some (.scr ns), some (.int (i : Int)), some (.ref b), some (.ref o), some (.xtp (zs.map .str)), some (.tup (es.map egD)), some (.tup (hs.map hnD)), some (.ref l7), x8, x9, x10, x11, x12, x13, x14] ∧ Sub M2 M') (n := acc.reverse.length) rfl ?_ ?_ ⟨_, _, _, _, _, _, _, rfl, Sub.refl _⟩
      · rintro j d p M3 R3 hd ⟨x8, x9, x10, x11, x12, x13, x14, rfl, S3⟩ hR3
        obtain ⟨dt, t, rows, cps, rfl, d0, d1, rw2⟩ := ak d (List.mem_reverse.mp (List.mem_of_getElem? hd))
        refine ⟨trivial, ?_⟩
        simp only [gTupD, gConsD, gNilD, res_tup, qOr, qNot, qSeq, qAsg, qTup, qCons, qNil, qOp, qUn, qC, qCall, qVar, qLst, newL_f, qIfS, qTB, qNext, qRet, qDrop, qFor, qCB, qAug, qSl, qPart, qNoPart, gNameD, gSub_eq, dInt_i, dInt0_i, dAdd_i, dCmpI_i, List.set_cons_zero, List.set_cons_succ, List.getElem?_cons_zero, List.getElem?_cons_succ, List.append_nil, z_l0, z_l1, z_l2, z_l3, z_l4, z_l5, z_l6, z_l7, z_l8, z_l9, z_l19, z_l24, z_l25, true_and]
        refine ⟨rfl, ?_⟩
        refine C _ _ _ _ d0 d1 fun t' q M4 H ht hq S4 TC => ?_
        obtain ⟨e1, e2, e3⟩ := (rw2.mono (M' := M4) fun a o _ h => S4 _ _ (S3 _ _ h)).deep
        rw [eqR_same e1 (deep_prm M4 4 _ e2) (prm_data _ e2) e3]
        simp only [Bool.not_true, Bool.false_eq_true, if_false]
        refine ⟨es, hs, _, H, t', q, rfl, TC, fun M5 S5 => ?_⟩
        simp only [Bool.not_true, Bool.false_eq_true, if_false]
        exact hR3 _ _ ⟨_, _, _, _, _, _, _, rfl, (S3.trans S4).trans S5⟩
      · rintro p M3 ⟨x8, x9, x10, x11, x12, x13, x14, rfl, S3⟩
        exact ⟨trivial, hR _ _ ⟨_, _, _, _, _, _, _, _, _, _, _, _, _, _, rfl⟩⟩
  · rintro p M' ⟨x1, x2, x3, x4, x5, x6, x7, x8, x9, x10, x11, x12, x13, x14, rfl⟩
    refine ⟨trivial, ?_⟩
    simp only [qSeq, qAsg, qTup, qCons, qNil, qOp, qUn, qC, qCall, qVar, qLst, newL_f, qIfS, qTB, qNext, qRet, qDrop, qFor, qCB, qAug, qSl, qPart, qNoPart, gNameD, gSub_eq, dInt_i, dInt0_i, dAdd_i, dCmpI_i, List.set_cons_zero, List.set_cons_succ, List.getElem?_cons_zero, List.getElem?_cons_succ, List.append_nil, z_l0, z_l1, z_l2, z_l3, z_l4, z_l5, z_l6, z_l7, z_l8, z_l9, z_l19, z_l24, z_l25, true_and]
    exact k _
end K17
def PySem.W.Fast.tw18319194662065218248 : Unit := ()
def PySem.W.Fast.tw13301434747408987080 : Unit := ()
def PySem.W.Fast.tw8661334086471453580 : Unit := ()
def PySem.W.Fast.tw3549257486393726574 : Unit := ()
def PySem.W.Fast.tw17035940730404588532 : Unit := ()
def PySem.W.Fast.tw13644236053275030773 : Unit := ()
def PySem.W.Fast.tw8878685903162114102 : Unit := ()
def PySem.W.Fast.tw14579620024919451225 : Unit := ()
def PySem.W.Fast.tw5393006854858949754 : Unit := ()
def PySem.W.Fast.tw14200461556074251867 : Unit := ()
namespace K17
open PySem L2 DL Tx20 Tx21
abbrev LEVEL : Nat := 67
def spVoid : DSp := fun _ _ _ _ => False
section
variable {P : Program} {w : World} {K : PySem.W.Frag} {mg : Str → Option Value}
theorem ok_gets (T : Tx w K mg) (base : Heap) : ∀ n, FnOk P w K mg base (L2.CX P w) n T.f_gets_holder.f T.f_gets_holder.fd ["wishes", "held", "wish", "tried"] (toSp K (Pair.spGets n))
  | 0 => fn_void fun _ _ _ _ ⟨_, _, _, _, _, _, _, _, _, _, _, _, _, h, _⟩ => Nat.not_lt_zero _ h
  | n + 1 => dv_gets_holder T (ok_gets T base n) (fun _ _ _ _ ⟨_, _, _, _, _, _, e, _⟩ => by rw [e]; rfl) (Pair.gets_ok n)
theorem ok_lgets (T : Tx w K mg) (base : Heap) : ∀ n, FnOk P w K mg base (L2.CX P w) n T.f__law_gets.f T.f__law_gets.fd ["_law_wants", "_law_held", "_law_wish", "_law_tried"] (toSp K (spGetsL n))
  | 0 => fn_void fun _ _ _ _ ⟨_, _, _, _, _, _, _, _, _, _, _, _, _, h, _⟩ => Nat.not_lt_zero _ h
  | n + 1 => dv__law_gets T (ok_lgets T base n) (fun _ _ _ _ ⟨_, _, _, _, _, _, e, _⟩ => by rw [e]; rfl) (getsl_ok n)
theorem ok_law (T : Tx w K mg) (base : Heap) : FnOk P w K mg base (L2.CX P w) LEVEL T.f_law.f T.f_law.fd ["_law_script"] (toSp K spLaw) := by
  have G_is_whole := dv_is_whole (P := P) (base := base) (k := 0) T (p := spIsWhole) (fun _ _ _ _ ⟨_, _, _, _, e, _⟩ => by rw [e]; rfl) whole_ok
  have G_is_name := dv_is_name (P := P) (base := base) (k := 0) T (p := spIsName) (fun _ _ _ _ ⟨_, _, e, _⟩ => by rw [e]; rfl) name_ok
  have G_is_one_of := dv_is_one_of (P := P) (base := base) (k := 0) T (p := spIsOne) (fun _ _ _ _ ⟨_, _, _, _, e, _⟩ => by rw [e]; rfl) one_ok
  have G_is_tuple_of := dv_is_tuple_of (P := P) (base := base) (k := 0) T (p := spIsTuple) (fun _ _ _ _ ⟨_, _, _, e, _⟩ => by rw [e]; rfl) tuple_ok
  have G_gets_holder := ok_gets (P := P) T base 64
  have G_band_of := dv_band_of (P := P) (base := base) (k := 0) T (p := Pair.spBandG false) (fun _ _ _ _ ⟨_, _, _, _, _, e, _⟩ => by rw [e]; rfl) (Pair.band_ok false)
  have G_paired := dv_paired (P := P) (base := base) (k := 64) T (G_band_of.mono (by decide)) (G_gets_holder.mono (by decide)) (p := Pair.spPaired) (fun _ _ _ _ ⟨_, e, _⟩ => by rw [e]; rfl) Pair.paired_ok
  have G_is_on_watch := dv_is_on_watch (P := P) (base := base) (k := 0) T (p := spOnW) (fun _ _ _ _ ⟨_, _, e, _⟩ => by rw [e]; rfl) onwatch_ok
  have G_can_drive := dv_can_drive (P := P) (base := base) (k := 0) T (p := spCanDr) (fun _ _ _ _ ⟨_, _, e, _⟩ => by rw [e]; rfl) candrive_ok
  have G_drivers_for := dv_drivers_for (P := P) (base := base) (k := 1) T (G_can_drive.mono (by decide)) (G_is_on_watch.mono (by decide)) (p := spDrv) (fun _ _ _ _ ⟨_, _, _, e, _⟩ => by rw [e]; rfl) drivers_ok
  have G_crews := dv_crews (P := P) (base := base) (k := 65) T (G_drivers_for.mono (by decide)) (G_is_on_watch.mono (by decide)) (G_paired.mono (by decide)) (p := spCrews) (fun _ _ _ _ ⟨_, _, _, e, _⟩ => by rw [e]; rfl) crews_ok
  have G_is_place := dv_is_place (P := P) (base := base) (k := 1) T (G_is_name.mono (by decide)) (G_is_tuple_of.mono (by decide)) (G_is_whole.mono (by decide)) (p := spIsPlace) (fun _ _ _ _ ⟨_, _, e, _⟩ => by rw [e]; rfl) place_ok
  have G_places_fault := dv_places_fault (P := P) (base := base) (k := 2) T (G_is_place.mono (by decide)) (p := spPlaces) (fun _ _ _ _ ⟨_, _, e, _⟩ => by rw [e]; rfl) places_ok
  have G_is_road : FnOk P w K mg base (L2.CX P w) 1 T.f_is_road.f T.f_is_road.fd ["names", "thing"] (toSp K spVoid) := fn_void fun _ _ _ _ h => h
  have G_roads_fault := dv_roads_fault (P := P) (base := base) (k := 1) T (G_is_road.mono (by decide)) (p := spRoads0) (fun _ _ _ _ ⟨_, e, _⟩ => by rw [e]; rfl) (roads0_ok _)
  have G_stations_fault := dv_stations_fault (P := P) (base := base) (k := 1) T (G_is_one_of.mono (by decide)) (p := spStations) (fun _ _ _ _ ⟨_, _, _, _, e, _⟩ => by rw [e]; rfl) stations_ok
  have G_need := dv_need (P := P) (base := base) (k := 2) (by decide) T (p := spNeed0) (fun _ _ _ _ ⟨_, e, _⟩ => by rw [e]; rfl) (need0_ok _)
  have G_Ground___init__ := dv_Ground___init__ (P := P) (base := base) (k := 3) T (G_need.mono (by decide)) (G_places_fault.mono (by decide)) (G_roads_fault.mono (by decide)) (G_stations_fault.mono (by decide)) (p := spGround0 T.c_Ground.C) (fun _ _ _ _ ⟨_, _, _, e, _⟩ => by rw [e]; rfl) (ground0_ok _)
  have G__law_bag := (dv__law_bag (P := P) (base := base) (k := 0) T (p := spBagL) (fun _ _ _ _ ⟨_, _, e, _⟩ => by rw [e]; rfl) bag_ok).imp fun _ _ _ _ h => imp_bag h
  have G__law_take := (dv__law_take (P := P) (base := base) (k := 0) T (p := spTakeL) (fun _ _ _ _ ⟨_, _, _, _, e, _⟩ => by rw [e]; rfl) take_ok).imp fun _ _ _ _ h => imp_take h
  have G__law_names := dv__law_names (P := P) (base := base) (k := 1) T (G__law_take.mono (by decide)) (p := spLNames) (fun _ _ _ _ ⟨_, _, e, _⟩ => by rw [e]; rfl) names_ok
  have G__law_ground := dv__law_ground (P := P) (base := base) (k := 5) (ki_Ground := 4) T (by decide) G_Ground___init__ (G__law_names.mono (by decide)) (G__law_take.mono (by decide)) (p := spLGround T.c_Ground.C) (fun _ _ _ _ ⟨_, _, e, _⟩ => by rw [e]; rfl) (lground_ok _)
  have G__law_engines := dv__law_engines (P := P) (base := base) (k := 2) T (G__law_names.mono (by decide)) (G__law_take.mono (by decide)) (p := spCEngines) (fun _ _ _ _ ⟨_, _, e, _⟩ => by rw [e]; rfl) cengines_ok
  have G__law_hands := dv__law_hands (P := P) (base := base) (k := 1) T (G__law_take.mono (by decide)) (p := spCHands) (fun _ _ _ _ ⟨_, _, _, e, _⟩ => by rw [e]; rfl) chands_ok
  have G__law_watch := dv__law_watch (P := P) (base := base) (k := 0) T (p := spOnW) (fun _ _ _ _ ⟨_, _, e, _⟩ => by rw [e]; rfl) lwatch_ok
  have G__law_drives := dv__law_drives (P := P) (base := base) (k := 1) T (G__law_watch.mono (by decide)) (p := spLDr) (fun _ _ _ _ ⟨_, _, _, e, _⟩ => by rw [e]; rfl) ldrives_ok
  have G__law_gets := ok_lgets (P := P) T base 64
  have G__law_most := dv__law_most (P := P) (base := base) (k := 64) T (G__law_drives.mono (by decide)) (G__law_gets.mono (by decide)) (p := spLMost17) (fun _ _ _ _ ⟨_, _, _, e, _⟩ => by rw [e]; rfl) lmost17_ok
  have G__law_holds := dv__law_holds (P := P) (base := base) (k := 65) T (G__law_most.mono (by decide)) (G__law_watch.mono (by decide)) (p := spHolds17) (fun _ _ _ _ ⟨_, _, _, _, _, _, e, _⟩ => by rw [e]; rfl) lholds_ok
  exact dv_law (P := P) (base := base) (k := 66) T (G__law_bag.mono (by decide)) (G__law_engines.mono (by decide)) (G__law_ground.mono (by decide)) (G__law_hands.mono (by decide)) (G__law_holds.mono (by decide)) (G__law_take.mono (by decide)) (G_crews.mono (by decide)) (p := spLaw) (fun _ _ _ _ ⟨_, e, _⟩ => by rw [e]; rfl) (law_ok _)
end
end K17
open PySem PySem.W PyProof.Rows in
set_option maxRecDepth 100000 in
set_option maxHeartbeats 0 in
theorem PySem.Challenge.cw_whistleboard_k17_whole_crews_holds : PySem.Challenge.rw_whistleboard_k17_whole_crews.Holds := by
  w_on; o_law; k_head; (case hw => w_witness2)
  k_fill
  refine DL.walk (l := PySem.Challenge.rw_whistleboard_k17_whole_crews) (k := K17.LEVEL) (by decide) rfl rfl (fun w h Y => by first | exact PySem.W.kIn_of Y | exact PySem.W.km_in_of Y) ?F
  case F =>
    intro w mg fa h KX G hmg
    refine' K17.all_mk KX G hmg ?oa0 ?opg0 ?ohd0 ?opo0 ?osa0 ?on0_0 ?on1_0 ?on2_0 ?on3_0 ?omk0 ?okc0 ?a0 ?l0 ?c0 ?k0 ?a1 ?l1 ?c1 ?k1 ?a2 ?l2 ?c2 ?k2 ?a3 ?l3 ?c3 ?k3 ?a4 ?l4 ?c4 ?k4 ?a5 ?l5 ?c5 ?k5 ?a6 ?l6 ?c6 ?k6 ?a7 ?l7 ?c7 ?k7 ?a8 ?l8 ?c8 ?k8 ?a9 ?l9 ?c9 ?k9 ?a10 ?l10 ?c10 ?k10 ?a11 ?l11 ?c11 ?k11 ?a12 ?l12 ?c12 ?k12 ?a13 ?l13 ?c13 ?k13 ?a14 ?l14 ?c14 ?k14 ?a15 ?l15 ?c15 ?k15 ?a16 ?l16 ?c16 ?k16 ?a17 ?b17 ?l17 ?c17 ?k17 ?a18 ?l18 ?c18 ?k18 ?a19 ?l19 ?c19 ?k19 ?a20 ?l20 ?c20 ?k20 ?a21 ?l21 ?c21 ?k21 ?a22 ?l22 ?c22 ?k22 ?a23 ?l23 ?c23 ?k23 ?a24 ?l24 ?c24 ?k24 ?a25 ?l25 ?c25 ?k25 ?a26 ?l26 ?c26 ?k26 ?a27 ?l27 ?c27 ?k27 ?a28 ?l28 ?c28 ?k28 ?a29 ?l29 ?c29 ?k29 ?z0 ?z1 ?z2 ?z3 ?z4 ?z5 ?z6 ?z7 ?z8 ?z9 ?z10 ?z11 ?z12 ?z13 ?z14 ?z15 ?z16 ?z17 ?z18 ?lit0 ?lit1 ?lit2 ?lit3 ?lit4 ?lit5 ?lit6 ?xa0 ?xL0 ?xsa0 ?xi0 ?xt0 ?xl0 ?xc0 ?xkf0 ?xn0_0 ?xn1_0 ?xv0 ?xk0 ?xex0 ?xty0 ?xhd0 ?xss0 ?xga0 ?xgg0 ?xcl0 ?xge0 ?xtk0 ?xmo0 (fun T base => K17.ok_law T base)
    (case oa0 => k_is)
    (case opg0 => k_is)
    (case ohd0 => k_is)
    (case opo0 => k_is)
    (case osa0 => k_is)
    (case on0_0 => k_is)
    (case on1_0 => k_is)
    (case on2_0 => k_is)
    (case on3_0 => k_is)
    (case omk0 => k_is)
    (case okc0 => k_is)
    (case a0 => k_is)
    (case l0 => k_is)
    (case c0 => k_is)
    (case k0 => k_is)
    (case a1 => k_is)
    (case l1 => k_is)
    (case c1 => k_is)
    (case k1 => k_is)
    (case a2 => k_is)
    (case l2 => k_is)
    (case c2 => k_is)
    (case k2 => k_is)
    (case a3 => k_is)
    (case l3 => k_is)
    (case c3 => k_is)
    (case k3 => k_is)
    (case a4 => k_is)
    (case l4 => k_is)
    (case c4 => k_is)
    (case k4 => k_is)
    (case a5 => k_is)
    (case l5 => k_is)
    (case c5 => k_is)
    (case k5 => k_is)
    (case a6 => k_is)
    (case l6 => k_is)
    (case c6 => k_is)
    (case k6 => k_is)
    (case a7 => k_is)
    (case l7 => k_is)
    (case c7 => k_is)
    (case k7 => k_is)
    (case a8 => k_is)
    (case l8 => k_is)
    (case c8 => k_is)
    (case k8 => k_is)
    (case a9 => k_is)
    (case l9 => k_is)
    (case c9 => k_is)
    (case k9 => k_is)
    (case a10 => k_is)
    (case l10 => k_is)
    (case c10 => k_is)
    (case k10 => k_is)
    (case a11 => k_is)
    (case l11 => k_is)
    (case c11 => k_is)
    (case k11 => k_is)
    (case a12 => k_is)
    (case l12 => k_is)
    (case c12 => k_is)
    (case k12 => k_is)
    (case a13 => k_is)
    (case l13 => k_is)
    (case c13 => k_is)
    (case k13 => k_is)
    (case a14 => k_is)
    (case l14 => k_is)
    (case c14 => k_is)
    (case k14 => k_is)
    (case a15 => k_is)
    (case l15 => k_is)
    (case c15 => k_is)
    (case k15 => k_is)
    (case a16 => k_is)
    (case l16 => k_is)
    (case c16 => k_is)
    (case k16 => k_is)
    (case a17 => k_is)
    (case b17 => k_is)
    (case l17 => k_is)
    (case c17 => k_is)
    (case k17 => k_is)
    (case a18 => k_is)
    (case l18 => k_is)
    (case c18 => k_is)
    (case k18 => k_is)
    (case a19 => k_is)
    (case l19 => k_is)
    (case c19 => k_is)
    (case k19 => k_is)
    (case a20 => k_is)
    (case l20 => k_is)
    (case c20 => k_is)
    (case k20 => k_is)
    (case a21 => k_is)
    (case l21 => k_is)
    (case c21 => k_is)
    (case k21 => k_is)
    (case a22 => k_is)
    (case l22 => k_is)
    (case c22 => k_is)
    (case k22 => k_is)
    (case a23 => k_is)
    (case l23 => k_is)
    (case c23 => k_is)
    (case k23 => k_is)
    (case a24 => k_is)
    (case l24 => k_is)
    (case c24 => k_is)
    (case k24 => k_is)
    (case a25 => k_is)
    (case l25 => k_is)
    (case c25 => k_is)
    (case k25 => k_is)
    (case a26 => k_is)
    (case l26 => k_is)
    (case c26 => k_is)
    (case k26 => k_is)
    (case a27 => k_is)
    (case l27 => k_is)
    (case c27 => k_is)
    (case k27 => k_is)
    (case a28 => k_is)
    (case l28 => k_is)
    (case c28 => k_is)
    (case k28 => k_is)
    (case a29 => k_is)
    (case l29 => k_is)
    (case c29 => k_is)
    (case k29 => k_is)
    (case z0 => k_is)
    (case z1 => k_is)
    (case z2 => k_is)
    (case z3 => k_is)
    (case z4 => k_is)
    (case z5 => k_is)
    (case z6 => k_is)
    (case z7 => k_is)
    (case z8 => k_is)
    (case z9 => k_is)
    (case z10 => k_is)
    (case z11 => k_is)
    (case z12 => k_is)
    (case z13 => k_is)
    (case z14 => k_is)
    (case z15 => k_is)
    (case z16 => k_is)
    (case z17 => k_is)
    (case z18 => k_is)
    (case lit0 => k_is)
    (case lit1 => k_is)
    (case lit2 => k_is)
    (case lit3 => k_is)
    (case lit4 => k_is)
    (case lit5 => k_is)
    (case lit6 => k_is)
    (case xa0 => k_is)
    (case xL0 => k_is)
    (case xsa0 => k_is)
    (case xi0 => k_is)
    (case xt0 => k_is)
    (case xl0 => k_is)
    (case xc0 => k_is)
    (case xkf0 => k_is)
    (case xn0_0 => k_is)
    (case xn1_0 => k_is)
    (case xv0 => k_is)
    (case xk0 => k_is)
    (case xex0 => k_is)
    (case xty0 => k_is)
    (case xhd0 => k_is)
    (case xss0 => first | rfl | k_is)
    (case xga0 => k_is)
    (case xgg0 => k_is)
    (case xcl0 => k_is)
    (case xge0 => k_is)
    (case xtk0 => k_is)
    (case xmo0 => k_is)
#print axioms PySem.Challenge.cw_whistleboard_k17_whole_crews_holds
