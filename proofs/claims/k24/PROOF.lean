import PyProof.Rows.All
import Wide.All
import OpenK.AllK
import Wide.FinOn
import PyProof.EqAt
import PyProof.EqKinds
import PyProof.TupleCall
import HandS.ForMost
import HandS.ForExc
import HandS.CallSlots
import HandS.Lambda
import HandS.TupAny
import HandS.Style
import HandS.IsInst
import HandS.Codes
import KE.SortData
import HandS.SetKeys
import HandS.SetFor
import HandS.Defaults
import HandS.SortInts
import HandS.Strs
import KE.KDictPairs
import PyProof.StrOps2
import HandS.Text
import HandS.TupMul
import HandS.IntHex
import HandS.HeadHook3
import HandS.RaiseMore
import HandS.Zip
import KE.KWords
import KE.KStrOpen
import KE.KIntText
import PyProof.Rows.StrCase
import KE.KExcInit
import KE.KExcIs
import HandS.ExcInit
import HandS.ExcField
import HandS.ExcOwn
import HandS.ExcIs
import KE.KDictList
import HandS.More
import HandS.Conv
import KE.IntTextLaws
import PyProof.StrLawsChain
import PyProof.StrLawsTight
import PyProof.Rows.StrItems
import HandS.MakeKw
import HandS.SortKw
import HandS.Deep
import KE.GoesEnum
import KE.GoesEnumKw
import KE.GoesMore
import HandS.HotCalls
import HandS.OwnEq
import HandS.EndTab
import HandS.EndOwn
import HandS.TryOnly
import PyProof.DefCall
import HandS.Records
import PyProof.ListTruth
import HandS.FStr
import KE.DataCmp
import HandS.Dict
import KE.DataMinMax
import KE.KDictWalk
import HandS.Exc
import KE.KTryMore
import PyProof.DictUpdate
import PyProof.Rows.Range3
import PyProof.DictMoreH
import KE.KCallOwn
import HandS.StrMore
import PySem.Challenge.RW_whistleboard_k24_rows
set_option Elab.async false
set_option linter.all false
set_option maxRecDepth 100000
set_option maxHeartbeats 0
namespace DL
open PySem L2
/-- (xtp: a tuple whose very object is known, without a dict of its own) data: None, truths, numbers, texts, tuples, lists that are changed no more, dicts that are changed no more, instances that are changed no more; exc: an exception in hand (its dict, its fields); ref: an object that may change, or one of the program's own -/
inductive D where
  | non | bl (b : Bool) | int (i : Int) | str (x : Str) | ty (n : String) | ref (a : Addr)
  | tup (xs : List D) | lst (xs : List D)
  | ktp (xs : List D)
  | xtp (xs : List D)
  | scr (ns : List Int)
  | dct (ks : List Key) (xs : List D)
  | ins (C : Addr) (ns : List Str) (xs : List D)
  | exc (a : Addr) (dx : Option Addr) (ns : List Str) (xs : List D)
  | fnv (f c : Addr) (q : Str) (vs : List V) (xs : List D)
/-- objects that may change -/
inductive MO where
  | lst (xs : List D)
  | dK (kvs : List (Key × D))
  | dT (kvs : List (List Key × D))
  | ins (C : Addr) (fs : List (Str × D))
  | lk (ho : HO) (kvs : List (Key × D))
  | lkT (ho : HO) (kvs : List (List Key × D))
  | bag
  | tab (q : Str)
abbrev Mst := Addr → Option MO
/-- a key that is an int, or a text as they are -/
def kOk : Key → Prop
  | .inl _ => True
  | .inr x => x.length ≤ sizeLine ∧ PyData.strOk x = true
mutual
def Rep (K : PySem.W.Frag) (G : Hp) : D → V → Prop
  | .non, v => v = .non
  | .bl b, v => v = .bl b
  | .int i, v => v = .int i
  | .str x, v => v = .str x ∧ x.length ≤ sizeLine ∧ PyData.strOk x = true
  | .ty n, v => v = .ty n
  | .ref a, v => v = .ref a
  | .tup ds, v => ∃ a vs, v = .ref a ∧ G a = some (.tup vs) ∧ RepL K G ds vs ∧ vs.length ≤ sizeLine
  | .ktp ds, v => ∃ a vs, v = .ref a ∧ SqT K G a vs ∧ RepL K G ds vs ∧ vs.length ≤ sizeLine
  | .xtp ds, v => ∃ a o vs, v = .ref a ∧ G a = some (.frz o (.tup vs)) ∧ o.dict = none ∧ RepL K G ds vs ∧ vs.length ≤ sizeLine
  | .lst ds, v => ∃ a vs, v = .ref a ∧ G a = some (.lst vs) ∧ RepL K G ds vs ∧ vs.length ≤ sizeLine
  | .scr ns, v => ∃ a, v = .ref a ∧ SqL K G a (ns.map V.int) ∧ ns.length ≤ 63
  | .dct ks ds, v => ∃ a kvs, v = .ref a ∧ Rd G a (.dK kvs) ∧ kvs.map (·.1) = ks ∧ RepL K G ds (kvs.map (·.2)) ∧ kvs.length ≤ sizeLine ∧ ∀ k ∈ ks, kOk k
  | .ins C ns ds, v => ∃ a dx fs, v = .ref a ∧ G a = some (.ins C dx fs) ∧ fs.map (·.1) = ns ∧ RepL K G ds (fs.map (·.2))
  | .exc a dx ns ds, v => v = .ref a ∧ (ns = [] ∧ dx = none ∨ ∃ d fs, dx = some d ∧ G d = some (.xd fs) ∧ fs.map (·.1) = ns ∧ RepL K G ds (fs.map (·.2)))
  | .fnv f c q vs ds, v => v = .ref f ∧ G c = some (LamX.CodeO c q) ∧ RepL K G ds vs
def RepL (K : PySem.W.Frag) (G : Hp) : List D → List V → Prop
  | [], vs => vs = []
  | d :: ds, vs => ∃ v r, vs = v :: r ∧ Rep K G d v ∧ RepL K G ds r
end
theorem same_rd {H H' : Hp} {a : Addr} {u : HO} (e : Same H H') (h : Rd H a u) : Rd H' a u := by
  rcases h with h | ⟨o, h⟩
  · exact .inl (e _ _ h)
  · exact .inr ⟨o, e _ _ h⟩
theorem same_t {K : PySem.W.Frag} {H H' : Hp} {a : Addr} {xs : List V} (e : Same H H') (h : SqT K H a xs) : SqT K H' a xs := by
  rcases h with h | h
  · exact .inl (same_rd e h)
  · exact .inr h
theorem same_l {K : PySem.W.Frag} {H H' : Hp} {a : Addr} {xs : List V} (e : Same H H') (h : SqL K H a xs) : SqL K H' a xs := e.seq h
mutual
theorem Rep.mono {K : PySem.W.Frag} {G G' : Hp} (e : Same G G') : ∀ (d : D) (v : V), Rep K G d v → Rep K G' d v
  | .non, _, h => h
  | .bl _, _, h => h
  | .int _, _, h => h
  | .str _, _, h => h
  | .ty _, _, h => h
  | .ref _, _, h => h
  | .tup ds, _, ⟨a, vs, h1, h2, h3, h4⟩ => ⟨a, vs, h1, e _ _ h2, RepL.mono e ds vs h3, h4⟩
  | .ktp ds, _, ⟨a, vs, h1, h2, h3, h4⟩ => ⟨a, vs, h1, same_t e h2, RepL.mono e ds vs h3, h4⟩
  | .xtp ds, _, ⟨a, o, vs, h1, h2, h3, h4, h5⟩ => ⟨a, o, vs, h1, e _ _ h2, h3, RepL.mono e ds vs h4, h5⟩
  | .lst ds, _, ⟨a, vs, h1, h2, h3, h4⟩ => ⟨a, vs, h1, e _ _ h2, RepL.mono e ds vs h3, h4⟩
  | .scr _, _, ⟨a, h1, h2, h3⟩ => ⟨a, h1, same_l e h2, h3⟩
  | .dct _ ds, _, ⟨a, kvs, h1, h2, h3, h4, h5, h6⟩ => ⟨a, kvs, h1, same_rd e h2, h3, RepL.mono e ds _ h4, h5, h6⟩
  | .ins _ _ ds, _, ⟨a, dx, fs, h1, h2, h3, h4⟩ => ⟨a, dx, fs, h1, e _ _ h2, h3, RepL.mono e ds _ h4⟩
  | .exc _ _ _ ds, _, ⟨h0, h⟩ => ⟨h0, h.imp id fun ⟨d, fs, h1, h2, h3, h4⟩ => ⟨d, fs, h1, e _ _ h2, h3, RepL.mono e ds _ h4⟩⟩
  | .fnv _ _ _ vs ds, _, ⟨h1, h2, h3⟩ => ⟨h1, e _ _ h2, RepL.mono e ds vs h3⟩
theorem RepL.mono {K : PySem.W.Frag} {G G' : Hp} (e : Same G G') : ∀ (ds : List D) (vs : List V), RepL K G ds vs → RepL K G' ds vs
  | [], _, h => h
  | d :: ds, _, ⟨v, r, h1, h2, h3⟩ => ⟨v, r, h1, Rep.mono e d v h2, RepL.mono e ds r h3⟩
end
section
variable {K : PySem.W.Frag} {G G' H H' : Hp} {d : D} {ds : List D} {v : V} {vs : List V}
theorem RepL.nil : RepL K G [] [] := rfl
theorem RepL.cons (h : Rep K G d v) (r : RepL K G ds vs) : RepL K G (d :: ds) (v :: vs) := ⟨v, vs, rfl, h, r⟩
theorem RepL.length : ∀ {ds : List D} {vs : List V}, RepL K G ds vs → vs.length = ds.length
  | [], _, h => by cases h; rfl
  | d :: ds, _, ⟨v, r, h1, h2, h3⟩ => by cases h1; simp [RepL.length h3]
theorem RepL.get : ∀ {ds : List D} {vs : List V} {i : Nat} {d : D}, RepL K G ds vs → ds[i]? = some d → ∃ v, vs[i]? = some v ∧ Rep K G d v
  | [], _, _, _, h, e => by simp at e
  | d :: ds, _, 0, _, ⟨v, r, h1, h2, h3⟩, e => by cases h1; simp at e; subst e; exact ⟨v, rfl, h2⟩
  | d :: ds, _, i + 1, _, ⟨v, r, h1, h2, h3⟩, e => by
    cases h1
    obtain ⟨u, a, b⟩ := RepL.get (i := i) h3 (by simpa using e)
    exact ⟨u, by simpa using a, b⟩
theorem RepL.getV : ∀ {ds : List D} {vs : List V} {i : Nat} {v : V}, RepL K G ds vs → vs[i]? = some v → ∃ d, ds[i]? = some d ∧ Rep K G d v
  | [], _, _, _, h, e => by cases h; simp at e
  | d :: ds, _, 0, _, ⟨v, r, h1, h2, h3⟩, e => by cases h1; simp at e; subst e; exact ⟨d, rfl, h2⟩
  | d :: ds, _, i + 1, _, ⟨v, r, h1, h2, h3⟩, e => by
    cases h1
    obtain ⟨u, a, b⟩ := RepL.getV (i := i) h3 (by simpa using e)
    exact ⟨u, by simpa using a, b⟩
theorem RepL.append : ∀ {ds es : List D} {vs us : List V}, RepL K G ds vs → RepL K G es us → RepL K G (ds ++ es) (vs ++ us)
  | [], _, _, _, h, r => by cases h; simpa using r
  | d :: ds, _, _, _, ⟨v, q, h1, h2, h3⟩, r => by
    cases h1
    exact ⟨v, _, rfl, h2, RepL.append h3 r⟩
theorem RepL.take : ∀ {ds : List D} {vs : List V} (n : Nat), RepL K G ds vs → RepL K G (ds.take n) (vs.take n)
  | [], _, n, h => by cases h; simp; rfl
  | d :: ds, _, 0, h => by simp; rfl
  | d :: ds, _, n + 1, ⟨v, q, h1, h2, h3⟩ => by
    cases h1
    exact ⟨v, _, rfl, h2, RepL.take n h3⟩
theorem RepL.drop : ∀ {ds : List D} {vs : List V} (n : Nat), RepL K G ds vs → RepL K G (ds.drop n) (vs.drop n)
  | [], _, n, h => by cases h; simp; rfl
  | d :: ds, _, 0, h => by simpa using h
  | d :: ds, _, n + 1, ⟨v, q, h1, h2, h3⟩ => by
    cases h1
    simpa using RepL.drop n h3
theorem RepL.set : ∀ {ds : List D} {vs : List V} (n : Nat), RepL K G ds vs → Rep K G d v → RepL K G (ds.set n d) (vs.set n v)
  | [], _, n, h, _ => by cases h; simp; rfl
  | e :: ds, _, 0, ⟨w, q, h1, h2, h3⟩, r => by cases h1; exact ⟨v, _, rfl, r, h3⟩
  | e :: ds, _, n + 1, ⟨w, q, h1, h2, h3⟩, r => by
    cases h1
    exact ⟨w, _, rfl, h2, RepL.set n h3 r⟩
theorem RepL.reverse : ∀ {ds : List D} {vs : List V}, RepL K G ds vs → RepL K G ds.reverse vs.reverse
  | [], _, h => by cases h; simp; rfl
  | d :: ds, _, ⟨v, q, h1, h2, h3⟩ => by
    cases h1
    rw [List.reverse_cons, List.reverse_cons]
    exact RepL.append (RepL.reverse h3) (RepL.cons h2 rfl)
end
/-- what a mutable object is -/
def RepM (K : PySem.W.Frag) (G H : Hp) (a : Addr) : MO → Prop
  | .lst ds => ∃ vs, H a = some (.lst vs) ∧ RepL K G ds vs ∧ vs.length ≤ sizeLine
  | .dK kvs => ∃ kv : List (Key × V), H a = some (.dK kv) ∧ kv.map (·.1) = kvs.map (·.1) ∧ RepL K G (kvs.map (·.2)) (kv.map (·.2)) ∧ kv.length ≤ sizeLine ∧ ∀ q ∈ kvs, kOk q.1
  | .dT kvs => ∃ kv : List (List Key × V), H a = some (.dT kv) ∧ kv.map (·.1) = kvs.map (·.1) ∧ RepL K G (kvs.map (·.2)) (kv.map (·.2)) ∧ kv.length ≤ sizeLine ∧ ∀ q ∈ kvs, q.1.length ≤ sizeLine ∧ ∀ k ∈ q.1, kOk k
  | .ins C fs => ∃ dx fv, H a = some (.ins C dx fv) ∧ fv.map (·.1) = fs.map (·.1) ∧ RepL K G (fs.map (·.2)) (fv.map (·.2))
  | .lk ho kvs => ∃ (o : Obj) (kv : List (Key × V)), ho = .frz o (.dK kv) ∧ H a = some ho ∧ kv.map (·.1) = kvs.map (·.1) ∧ RepL K G (kvs.map (·.2)) (kv.map (·.2)) ∧ kv.length ≤ sizeLine ∧ ∀ q ∈ kvs, kOk q.1
  | .lkT ho kvs => ∃ (o : Obj) (kv : List (List Key × V)), ho = .frz o (.dT kv) ∧ H a = some ho ∧ kv.map (·.1) = kvs.map (·.1) ∧ RepL K G (kvs.map (·.2)) (kv.map (·.2)) ∧ kv.length ≤ sizeLine ∧ ∀ q ∈ kvs, q.1.length ≤ sizeLine ∧ ∀ k ∈ q.1, kOk k
  | .bag => ∃ g m : Int, H a = some (.lst [.int g, .int m]) ∧ 0 ≤ g ∧ 0 ≤ m ∧ m < 2147483648
  | .tab q => (∀ b ps, G b ≠ some (.tbl ps)) ∧ ∃ ps, H a = some (.tbl ps) ∧ PySem.TriplesOk ps.toList ∧ ∀ (pos : Pos) (cv : Value), codeAmong pos ps.toList = some cv → ∃ c, cv = .ref c ∧ G c = some (LamX.CodeO c q)
/-- no tables are known for good -/
def NoTab (G G' : Hp) : Prop := (∀ b ps, G b ≠ some (.tbl ps)) → ∀ b ps, G' b ≠ some (.tbl ps)
theorem NoTab.refl (G : Hp) : NoTab G G := fun h => h
theorem NoTab.upd {G : Hp} {a : Addr} {o : HO} (ho : ∀ ps, o ≠ .tbl ps) : NoTab G (L2.upd G a o) := fun h b ps e => by
  by_cases z : b = a
  · subst z; rw [upd_same] at e; cases e; exact ho ps rfl
  · rw [upd_ne z] at e; exact h b ps e
/-- the mutable objects stand in H, apart from what is known for good (G) -/
def MemOk (K : PySem.W.Frag) (G H : Hp) (M : Mst) : Prop := ∀ a o, M a = some o → G a = none ∧ RepM K G H a o
abbrev Rho := List (Option D)
/-- the slots, the heap and what is known of them -/
structure Sim (K : PySem.W.Frag) (G H : Hp) (p : Rho) (M : Mst) (s : St) : Prop where
  same : Same G H
  env : ∀ (i : Nat) (d : D), p[i]? = some (some d) → ∃ v, s[i]? = some (some v) ∧ Rep K G d v
  len : s.length = p.length
  mem : MemOk K G H M
/-- an exception: its class, its fields -/
structure DX where
  cls : Value
  fs : List (Str × D)
def RepX (K : PySem.W.Frag) (G : Hp) (x : DX) (cls : Value) (dx : Option Addr) : Prop :=
  cls = x.cls ∧ (x.fs = [] ∧ (∀ C, x.cls = .ref C → dx = none) ∨ ∃ d vf, dx = some d ∧ G d = some (.xd vf) ∧ vf.map (·.1) = x.fs.map (·.1) ∧ RepL K G (x.fs.map (·.2)) (vf.map (·.2)))
abbrev DK := D → Mst → Prop
abbrev DWt := DX → Rho → Mst → Prop
abbrev DTE := DWt → Rho → Mst → DK → Prop
abbrev DTT := DWt → Rho → Mst → (Bool → Mst → Prop) → Prop
abbrev DTA := DWt → Rho → Mst → (List D → Mst → Prop) → Prop
structure DEnds where
  nx : Rho → Mst → Prop
  rt : DK
  bk : Rho → Mst → Prop := fun _ _ => False
  ct : Rho → Mst → Prop := fun _ _ => False
abbrev DTS := DWt → DEnds → Rho → Mst → Prop
abbrev DTG := D → DWt → Rho → Mst → (Rho → Mst → Prop) → Prop
abbrev DTGs := List D → DWt → Rho → Mst → (Rho → Mst → Prop) → Prop
abbrev DOp := D → D → Mst → DK → Prop
abbrev DUn := D → Mst → DK → Prop
abbrev DCa := List D → Mst → DK → Prop
/-- a promise by data -/
abbrev DSp := List D → Mst → DK → (DX → Mst → Prop) → Prop
/-- the wish about exceptions -/
def WLink (K : PySem.W.Frag) (G : Hp) (DW : DWt) (W : WX) : Prop := ∀ G' H' p' M' s' x cls dx, Same G G' → Sim K G' H' p' M' s' → RepX K G' x cls dx → DW x p' M' → W cls dx s' H'
theorem WLink.mono {K : PySem.W.Frag} {G G' : Hp} {DW : DWt} {W : WX} (e : Same G G') (h : WLink K G DW W) : WLink K G' DW W :=
  fun G2 H' p' M' s' x cls dx e2 => h G2 H' p' M' s' x cls dx (e.trans e2)
def RefE (K : PySem.W.Frag) (W : WX) (t : TE) (q : DTE) : Prop := ∀ DW G H p M s (Q : DK) (Q' : VK), WLink K G DW W → Sim K G H p M s → q DW p M Q →
  (∀ G' H' M' d v, Same G G' → Sim K G' H' p M' s → Rep K G' d v → Q d M' → Q' v H') → t s H Q'
def RefT (K : PySem.W.Frag) (W : WX) (t : TT) (q : DTT) : Prop := ∀ DW G H p M s (Q : Bool → Mst → Prop) (Q' : Bool → Hp → Prop), WLink K G DW W → Sim K G H p M s → q DW p M Q →
  (∀ G' H' M' b, Same G G' → Sim K G' H' p M' s → Q b M' → Q' b H') → t s H Q'
def RefA (K : PySem.W.Frag) (W : WX) (t : TA) (q : DTA) : Prop := ∀ DW G H p M s (Q : List D → Mst → Prop) (Q' : List V → Hp → Prop), WLink K G DW W → Sim K G H p M s → q DW p M Q →
  (∀ G' H' M' ds vs, Same G G' → Sim K G' H' p M' s → RepL K G' ds vs → Q ds M' → Q' vs H') → t s H Q'
structure EndsOk (K : PySem.W.Frag) (G : Hp) (DE : DEnds) (E : Ends) : Prop where
  nx : ∀ G' H' p' M' s', Same G G' → Sim K G' H' p' M' s' → DE.nx p' M' → E.nx s' H'
  rt : ∀ G' H' p' M' s' d v, Same G G' → Sim K G' H' p' M' s' → Rep K G' d v → DE.rt d M' → E.rt v H'
  bk : ∀ G' H' p' M' s', Same G G' → Sim K G' H' p' M' s' → DE.bk p' M' → E.bk s' H'
  ct : ∀ G' H' p' M' s', Same G G' → Sim K G' H' p' M' s' → DE.ct p' M' → E.ct s' H'
theorem EndsOk.mono {K : PySem.W.Frag} {G G' : Hp} {DE : DEnds} {E : Ends} (e : Same G G') (h : EndsOk K G DE E) : EndsOk K G' DE E :=
  ⟨fun G2 H' p' M' s' e2 => h.nx G2 H' p' M' s' (e.trans e2), fun G2 H' p' M' s' d v e2 => h.rt G2 H' p' M' s' d v (e.trans e2),
    fun G2 H' p' M' s' e2 => h.bk G2 H' p' M' s' (e.trans e2), fun G2 H' p' M' s' e2 => h.ct G2 H' p' M' s' (e.trans e2)⟩
def RefS (K : PySem.W.Frag) (W : WX) (t : TS) (q : DTS) : Prop := ∀ DW G H p M s (DE : DEnds) (E : Ends), WLink K G DW W → Sim K G H p M s → q DW DE p M → EndsOk K G DE E → t E s H
/-- rules by values -/
def RefR2 (K : PySem.W.Frag) (r : R2) (q : DOp) : Prop := ∀ G H p M s x y v u (Q : DK) (Q' : VK), Sim K G H p M s → Rep K G x v → Rep K G y u → q x y M Q →
  (∀ G' H' M' d w, Same G G' → Sim K G' H' p M' s → Rep K G' d w → Q d M' → Q' w H') → r v u H Q'
def RefU (K : PySem.W.Frag) (r : V → Hp → VK → Prop) (q : DUn) : Prop := ∀ G H p M s x v (Q : DK) (Q' : VK), Sim K G H p M s → Rep K G x v → q x M Q →
  (∀ G' H' M' d w, Same G G' → Sim K G' H' p M' s → Rep K G' d w → Q d M' → Q' w H') → r v H Q'
def RefC (K : PySem.W.Frag) (r : List V → Hp → VK → Prop) (q : DCa) : Prop := ∀ G H p M s ds vs (Q : DK) (Q' : VK), Sim K G H p M s → RepL K G ds vs → q ds M Q →
  (∀ G' H' M' d w, Same G G' → Sim K G' H' p M' s → Rep K G' d w → Q d M' → Q' w H') → r vs H Q'
structure QE (X : Cx) (W : WX) (e : Expr) (t : TE) (q : DTE) : Prop where
  pe : PE X e t
  rf : RefE X.K W t q
structure QT (X : Cx) (W : WX) (e : Expr) (t : TT) (q : DTT) : Prop where
  pe : PT X e t
  rf : RefT X.K W t q
structure QW (X : Cx) (W : WX) (e : Expr) (t : TT) (q : DTT) : Prop where
  pe : PW X e t
  rf : RefT X.K W t q
structure QA (X : Cx) (W : WX) (es : List Expr) (t : TA) (q : DTA) : Prop where
  pe : PA X es t
  rf : RefA X.K W t q
structure QS (X : Cx) (W : WX) (st : Stmt) (t : TS) (q : DTS) : Prop where
  pe : PS X st t
  rf : RefS X.K W t q
structure QSs (X : Cx) (W : WX) (st : List Stmt) (t : TS) (q : DTS) : Prop where
  pe : PSs X st t
  rf : RefS X.K W t q
structure QOp (X : Cx) (f : Value → Value → Sem Value) (r : R2) (q : DOp) : Prop where
  op : OpR X f r
  rf : RefR2 X.K r q
structure QCa (X : Cx) (f : Value) (r : List V → Hp → VK → Prop) (q : DCa) : Prop where
  op : CallR X f r
  rf : RefC X.K r q
theorem QW.t {X : Cx} {W : WX} {e : Expr} {t : TT} {q : DTT} (h : QW X W e t q) : QT X W e t q := ⟨h.pe.pt, h.rf⟩
def put (M : Mst) (a : Addr) (o : MO) : Mst := fun b => if b = a then some o else M b
def del (M : Mst) (a : Addr) : Mst := fun b => if b = a then none else M b
section
variable {M : Mst} {a b : Addr} {o u : MO}
@[simp] theorem put_same : put M a o a = some o := by simp [put]
theorem put_ne (h : b ≠ a) : put M a o b = M b := by simp [put, h]
@[simp] theorem put_put : put (put M a o) a u = put M a u := by
  funext c; unfold put; split <;> rfl
@[simp] theorem del_put (h : M a = none) : del (put M a o) a = M := by
  funext c
  unfold del put
  split
  · next e => rw [e, h]
  · rfl
theorem put_id (h : M a = some o) : put M a o = M := by
  funext c; unfold put; split
  · next e => rw [e, h]
  · rfl
end
section
variable {K : PySem.W.Frag} {G G' H H' : Hp} {p : Rho} {M : Mst} {s : St} {a : Addr} {o : HO} {mo : MO}
theorem RepM.mono {a : Addr} {mo : MO} (e : Same G G') (h : RepM K G H a mo) (hh : H' a = H a) (ht : NoTab G G') : RepM K G' H' a mo := by
  cases mo with
  | lst ds => obtain ⟨vs, h1, h2, h3⟩ := h; exact ⟨vs, hh.trans h1, RepL.mono e _ _ h2, h3⟩
  | dK kvs => obtain ⟨vs, h1, h2, h3, h4⟩ := h; exact ⟨vs, hh.trans h1, h2, RepL.mono e _ _ h3, h4⟩
  | dT kvs => obtain ⟨vs, h1, h2, h3, h4⟩ := h; exact ⟨vs, hh.trans h1, h2, RepL.mono e _ _ h3, h4⟩
  | ins C fs => obtain ⟨dx, vs, h1, h2, h3⟩ := h; exact ⟨dx, vs, hh.trans h1, h2, RepL.mono e _ _ h3⟩
  | lk ho kvs => obtain ⟨o, vs, h0, h1, h2, h3, h4⟩ := h; exact ⟨o, vs, h0, hh.trans h1, h2, RepL.mono e _ _ h3, h4⟩
  | lkT ho kvs => obtain ⟨o, vs, h0, h1, h2, h3, h4⟩ := h; exact ⟨o, vs, h0, hh.trans h1, h2, RepL.mono e _ _ h3, h4⟩
  | bag => obtain ⟨g, m, h1, h2⟩ := h; exact ⟨g, m, hh.trans h1, h2⟩
  | tab q => obtain ⟨nt, ps, h1, h2, h3⟩ := h; exact ⟨ht nt, ps, hh.trans h1, h2, fun pos cv hc => by obtain ⟨c, e1, e2⟩ := h3 pos cv hc; exact ⟨c, e1, e _ _ e2⟩⟩
theorem RepM.there (h : RepM K G H a mo) : ∃ o, H a = some o := by
  cases mo with
  | lst ds => obtain ⟨vs, h1, _⟩ := h; exact ⟨_, h1⟩
  | dK ds => obtain ⟨vs, h1, _⟩ := h; exact ⟨_, h1⟩
  | dT ds => obtain ⟨vs, h1, _⟩ := h; exact ⟨_, h1⟩
  | ins C ds => obtain ⟨dx, vs, h1, _⟩ := h; exact ⟨_, h1⟩
  | lk ho ds => obtain ⟨o, vs, _, h1, _⟩ := h; exact ⟨_, h1⟩
  | lkT ho ds => obtain ⟨o, vs, _, h1, _⟩ := h; exact ⟨_, h1⟩
  | bag => obtain ⟨g, vs, h1, _⟩ := h; exact ⟨_, h1⟩
  | tab q => obtain ⟨_, ps, h1, _⟩ := h; exact ⟨_, h1⟩
theorem MemOk.fresh (h : MemOk K G H M) (e : H a = none) : M a = none := by
  cases q : M a with
  | none => rfl
  | some u =>
    obtain ⟨o, r⟩ := (h a u q).2.there
    rw [e] at r; cases r
theorem Same.upd (e : Same G H) (hn : H a = none) : Same (upd G a o) (upd H a o) := fun b u q => by
  by_cases h : b = a
  · subst h; rw [upd_same] at q ⊢; exact q
  · rw [upd_ne h] at q ⊢; exact e _ _ q
theorem same_new (hn : H a = none) : Same H (upd H a o) := fun b u q => by rw [upd_ne (ne_of_none q hn)]; exact q
/-- what is frozen grows by what is not mutable -/
theorem MemOk.grow (h : MemOk K G H M) (e : Same G G') (ht : NoTab G G') (hk : ∀ b u, M b = some u → H' b = H b) (hg : ∀ b u, M b = some u → G' b = none) : MemOk K G' H' M := fun b u q =>
  ⟨hg b u q, (h b u q).2.mono e (hk b u q) ht⟩
/-- a new object that will not change -/
theorem Sim.made (S : Sim K G H p M s) (hn : H a = none) (ho : ∀ ps, o ≠ .tbl ps := by intro _ h; cases h) : Same G (L2.upd G a o) ∧ Sim K (L2.upd G a o) (L2.upd H a o) p M s := by
  have gn : G a = none := S.same.free hn
  have mn : M a = none := S.mem.fresh hn
  have e : Same G (L2.upd G a o) := same_new gn
  have ne : ∀ b u, M b = some u → b ≠ a := fun b u q z => by rw [z, mn] at q; cases q
  refine ⟨e, Same.upd S.same hn, fun i d q => ?_, S.len, S.mem.grow e (.upd ho) (fun b u q => upd_ne (ne b u q)) (fun b u q => by rw [upd_ne (ne b u q)]; exact (S.mem b u q).1)⟩
  obtain ⟨v, h1, h2⟩ := S.env i d q
  exact ⟨v, h1, Rep.mono e _ _ h2⟩
/-- a mutable object is new, or changes -/
theorem Sim.put (S : Sim K G H p M s) (hg : G a = none) (h : RepM K G (L2.upd H a o) a mo) : Sim K G (L2.upd H a o) p (put M a mo) s := by
  refine ⟨fun b u q => ?_, S.env, S.len, fun b u q => ?_⟩
  · rw [upd_ne (ne_of_none q hg)]; exact S.same b u q
  · by_cases e : b = a
    · subst e; rw [put_same] at q; cases q; exact ⟨hg, h⟩
    · rw [put_ne e] at q
      exact ⟨(S.mem b u q).1, (S.mem b u q).2.mono (Same.refl G) (upd_ne e) (.refl G)⟩
/-- a mutable list will change no more -/
theorem Sim.freeze {ds : List D} (S : Sim K G H p M s) (h : M a = some (.lst ds)) : ∃ G', Same G G' ∧ Sim K G' H p (del M a) s ∧ Rep K G' (.lst ds) (.ref a) := by
  obtain ⟨gn, vs, h1, h2, h3⟩ := S.mem _ _ h
  have e : Same G (L2.upd G a (.lst vs)) := same_new gn
  refine ⟨L2.upd G a (.lst vs), e, ⟨fun b u q => ?_, fun i d q => ?_, S.len, fun b u q => ?_⟩, a, vs, rfl, upd_same, RepL.mono e _ _ h2, h3⟩
  · by_cases z : b = a
    · subst z; rw [upd_same] at q; cases q; exact h1
    · rw [upd_ne z] at q; exact S.same _ _ q
  · obtain ⟨v, r1, r2⟩ := S.env i d q
    exact ⟨v, r1, Rep.mono e _ _ r2⟩
  · by_cases z : b = a
    · subst z; simp [del] at q
    · have q' : M b = some u := by simpa [del, z] using q
      exact ⟨by rw [upd_ne z]; exact (S.mem b u q').1, (S.mem b u q').2.mono e rfl (.upd fun _ h => by cases h)⟩
theorem Sim.freezeD {kvs : List (Key × D)} (S : Sim K G H p M s) (h : M a = some (.dK kvs)) : ∃ G', Same G G' ∧ Sim K G' H p (del M a) s ∧ Rep K G' (.dct (kvs.map (·.1)) (kvs.map (·.2))) (.ref a) := by
  obtain ⟨gn, vs, h1, h2, h3, h4, h5⟩ := S.mem _ _ h
  have e : Same G (L2.upd G a (.dK vs)) := same_new gn
  refine ⟨L2.upd G a (.dK vs), e, ⟨fun b u q => ?_, fun i d q => ?_, S.len, fun b u q => ?_⟩, a, vs, rfl, .inl upd_same, h2, RepL.mono e _ _ h3, h4, fun k hk => by obtain ⟨q, q1, rfl⟩ := List.mem_map.mp hk; exact h5 q q1⟩
  · by_cases z : b = a
    · subst z; rw [upd_same] at q; cases q; exact h1
    · rw [upd_ne z] at q; exact S.same _ _ q
  · obtain ⟨v, r1, r2⟩ := S.env i d q
    exact ⟨v, r1, Rep.mono e _ _ r2⟩
  · by_cases z : b = a
    · subst z; simp [del] at q
    · have q' : M b = some u := by simpa [del, z] using q
      exact ⟨by rw [upd_ne z]; exact (S.mem b u q').1, (S.mem b u q').2.mono e rfl (.upd fun _ h => by cases h)⟩
theorem Sim.freezeI {C : Addr} {fs : List (Str × D)} (S : Sim K G H p M s) (h : M a = some (.ins C fs)) : ∃ G', Same G G' ∧ Sim K G' H p (del M a) s ∧ Rep K G' (.ins C (fs.map (·.1)) (fs.map (·.2))) (.ref a) := by
  obtain ⟨gn, dx, vs, h1, h2, h3⟩ := S.mem _ _ h
  have e : Same G (L2.upd G a (.ins C dx vs)) := same_new gn
  refine ⟨L2.upd G a (.ins C dx vs), e, ⟨fun b u q => ?_, fun i d q => ?_, S.len, fun b u q => ?_⟩, a, dx, vs, rfl, upd_same, h2, RepL.mono e _ _ h3⟩
  · by_cases z : b = a
    · subst z; rw [upd_same] at q; cases q; exact h1
    · rw [upd_ne z] at q; exact S.same _ _ q
  · obtain ⟨v, r1, r2⟩ := S.env i d q
    exact ⟨v, r1, Rep.mono e _ _ r2⟩
  · by_cases z : b = a
    · subst z; simp [del] at q
    · have q' : M b = some u := by simpa [del, z] using q
      exact ⟨by rw [upd_ne z]; exact (S.mem b u q').1, (S.mem b u q').2.mono e rfl (.upd fun _ h => by cases h)⟩
end
end DL
namespace DL
open PySem L2
/-- what a mutable object holds now -/
def res (M : Mst) : D → D
  | .ref a => match M a with
    | some (.lst ds) => .lst ds
    | some (.dK kvs) => .dct (kvs.map (·.1)) (kvs.map (·.2))
    | some (.lk _ kvs) => .dct (kvs.map (·.1)) (kvs.map (·.2))
    | some (.ins C fs) => .ins C (fs.map (·.1)) (fs.map (·.2))
    | _ => .ref a
  | .ktp ds => .tup ds
  | .xtp ds => .tup ds
  | d => d
section
variable {M : Mst}
@[simp] theorem res_non : res M .non = .non := rfl
@[simp] theorem res_bl {b} : res M (.bl b) = .bl b := rfl
@[simp] theorem res_int {b} : res M (.int b) = .int b := rfl
@[simp] theorem res_str {b} : res M (.str b) = .str b := rfl
@[simp] theorem res_ty {b} : res M (.ty b) = .ty b := rfl
@[simp] theorem res_tup {b} : res M (.tup b) = .tup b := rfl
@[simp] theorem res_ktp {b} : res M (.ktp b) = .tup b := rfl
@[simp] theorem res_xtp {b} : res M (.xtp b) = .tup b := rfl
@[simp] theorem res_lst {b} : res M (.lst b) = .lst b := rfl
@[simp] theorem res_scr {b} : res M (.scr b) = .scr b := rfl
@[simp] theorem res_dct {b c} : res M (.dct b c) = .dct b c := rfl
@[simp] theorem res_exc {b c d e} : res M (.exc b c d e) = .exc b c d e := rfl
@[simp] theorem res_ins {b c d} : res M (.ins b c d) = .ins b c d := rfl
end
section
variable {K : PySem.W.Frag} {G H : Hp} {p : Rho} {M : Mst} {s : L2.St} {d : D} {v : V}
theorem as_lst {ds : List D} (S : Sim K G H p M s) (r : Rep K G d v) (h : res M d = .lst ds) : ∃ a vs, v = .ref a ∧ H a = some (.lst vs) ∧ RepL K G ds vs ∧ vs.length ≤ sizeLine := by
  cases d with
  | lst es =>
    cases h
    obtain ⟨a, vs, h1, h2, h3, h4⟩ := r
    exact ⟨a, vs, h1, S.same _ _ h2, h3, h4⟩
  | ref a =>
    simp only [res] at h
    split at h
    · next es e =>
      cases h
      obtain ⟨gn, vs, h1, h2, h3⟩ := S.mem _ _ e
      exact ⟨a, vs, r, h1, h2, h3⟩
    · cases h
    · cases h
    · cases h
    · cases h
  | _ => cases h
theorem as_tup {ds : List D} (S : Sim K G H p M s) (r : Rep K G d v) (h : res M d = .tup ds) : ∃ a vs, v = .ref a ∧ SqT K H a vs ∧ RepL K G ds vs ∧ vs.length ≤ sizeLine := by
  cases d with
  | tup es =>
    cases h
    obtain ⟨a, vs, h1, h2, h3, h4⟩ := r
    exact ⟨a, vs, h1, .inl (.inl (S.same _ _ h2)), h3, h4⟩
  | ktp es =>
    cases h
    obtain ⟨a, vs, h1, h2, h3, h4⟩ := r
    exact ⟨a, vs, h1, same_t S.same h2, h3, h4⟩
  | xtp es =>
    cases h
    obtain ⟨a, o, vs, h1, h2, h3, h4, h5⟩ := r
    exact ⟨a, vs, h1, .inl (.inr ⟨o, S.same _ _ h2⟩), h4, h5⟩
  | ref a =>
    simp only [res] at h
    split at h <;> cases h
  | _ => cases h
theorem as_str {x : Str} (r : Rep K G d v) (h : res M d = .str x) : v = .str x ∧ x.length ≤ sizeLine ∧ PyData.strOk x = true := by
  cases d with
  | str es => cases h; exact r
  | ref a =>
    simp only [res] at h
    split at h <;> cases h
  | _ => cases h
theorem as_int {x : Int} (r : Rep K G d v) (h : res M d = .int x) : v = .int x := by
  cases d with
  | int es => cases h; exact r
  | ref a =>
    simp only [res] at h
    split at h <;> cases h
  | _ => cases h
theorem as_bl {x : Bool} (r : Rep K G d v) (h : res M d = .bl x) : v = .bl x := by
  cases d with
  | bl es => cases h; exact r
  | ref a =>
    simp only [res] at h
    split at h <;> cases h
  | _ => cases h
theorem as_dct {ks : List Key} {ds : List D} (S : Sim K G H p M s) (r : Rep K G d v) (h : res M d = .dct ks ds) :
    ∃ a kvs, v = .ref a ∧ Rd H a (.dK kvs) ∧ kvs.map (·.1) = ks ∧ RepL K G ds (kvs.map (·.2)) ∧ kvs.length ≤ sizeLine ∧ ∀ k ∈ ks, kOk k := by
  cases d with
  | dct es fs =>
    cases h
    obtain ⟨a, vs, h1, h2, h3, h4, h5⟩ := r
    exact ⟨a, vs, h1, same_rd S.same h2, h3, h4, h5⟩
  | ref a =>
    simp only [res] at h
    split at h
    · cases h
    · next es e =>
      cases h
      obtain ⟨gn, vs, h1, h2, h3, h4, h5⟩ := S.mem _ _ e
      exact ⟨a, vs, r, .inl h1, h2, h3, h4, fun k hk => by obtain ⟨q, q1, rfl⟩ := List.mem_map.mp hk; exact h5 q q1⟩
    · next es e =>
      cases h
      obtain ⟨gn, o, vs, h0, h1, h2, h3, h4, h5⟩ := S.mem _ _ e
      exact ⟨a, vs, r, .inr ⟨o, by rw [← h0]; exact h1⟩, h2, h3, h4, fun k hk => by obtain ⟨q, q1, rfl⟩ := List.mem_map.mp hk; exact h5 q q1⟩
    · cases h
    · cases h
  | _ => cases h
theorem as_ins {C : Addr} {ns : List Str} {ds : List D} (S : Sim K G H p M s) (r : Rep K G d v) (h : res M d = .ins C ns ds) :
    ∃ a dx fs, v = .ref a ∧ H a = some (.ins C dx fs) ∧ fs.map (·.1) = ns ∧ RepL K G ds (fs.map (·.2)) := by
  cases d with
  | ins es fs gs =>
    cases h
    obtain ⟨a, dx, vs, h1, h2, h3, h4⟩ := r
    exact ⟨a, dx, vs, h1, S.same _ _ h2, h3, h4⟩
  | ref a =>
    simp only [res] at h
    split at h
    · cases h
    · cases h
    · cases h
    · next es e =>
      cases h
      obtain ⟨gn, dx, vs, h1, h2, h3⟩ := S.mem _ _ e
      exact ⟨a, dx, vs, r, h1, h2, h3⟩
    · cases h
  | _ => cases h
end
/-- a list that is made: to be changed later (m), or not -/
def newL (m : Bool) (ds : List D) (M : Mst) (Q : DK) : Prop :=
  match m with
  | true => ∀ a, M a = none → Q (.ref a) (put M a (.lst ds))
  | false => Q (.lst ds) M
@[simp] theorem newL_t {ds M Q} : newL true ds M Q = ∀ a, M a = none → Q (.ref a) (put M a (.lst ds)) := rfl
@[simp] theorem newL_f {ds M Q} : newL false ds M Q = Q (.lst ds) M := rfl
section
variable {K : PySem.W.Frag} {G H : Hp} {p : Rho} {M : Mst} {s : L2.St} {d : D} {v : V} {a : Addr}
theorem newL_ok {m : Bool} {ds : List D} {vs : List V} {Q : DK} {Q' : VK} (S : Sim K G H p M s) (hn : H a = none) (r : RepL K G ds vs) (hl : vs.length ≤ sizeLine) (h : newL m ds M Q)
    (k : ∀ G' H' M' d w, Same G G' → Sim K G' H' p M' s → Rep K G' d w → Q d M' → Q' w H') : Q' (.ref a) (upd H a (.lst vs)) := by
  cases m with
  | true =>
    have h1 := h a (S.mem.fresh hn)
    exact k G _ _ (.ref a) _ (Same.refl _) (S.put (mo := .lst ds) (S.same.free hn) ⟨vs, upd_same, r, hl⟩) rfl h1
  | false =>
    obtain ⟨e, S'⟩ := S.made (o := .lst vs) hn
    exact k _ _ _ (.lst ds) _ e S' ⟨a, vs, rfl, upd_same, RepL.mono e _ _ r, hl⟩ h
theorem newT_ok {ds : List D} {vs : List V} {Q : DK} {Q' : VK} (S : Sim K G H p M s) (hn : H a = none) (r : RepL K G ds vs) (hl : vs.length ≤ sizeLine) (h : Q (.tup ds) M)
    (k : ∀ G' H' M' d w, Same G G' → Sim K G' H' p M' s → Rep K G' d w → Q d M' → Q' w H') : Q' (.ref a) (upd H a (.tup vs)) := by
  obtain ⟨e, S'⟩ := S.made (o := .tup vs) hn
  exact k _ _ _ (.tup ds) _ e S' ⟨a, vs, rfl, upd_same, RepL.mono e _ _ r, hl⟩ h
end
theorem sz1000 {n : Nat} (h : n ≤ 100000) : n ≤ sizeLine := Nat.le_trans h (by rw [sizeLine_eq]; decide)
@[simp] def qVar (i : Nat) : DTE := fun _ p M Q => match p[i]? with | some (some d) => Q d M | _ => False
@[simp] def qC (d : D) : DTE := fun _ _ M Q => Q d M
section
variable {X : Cx} {W : WX} {x : Str} {pos : Pos}
theorem qe_var {i : Nat} (h : PE X (.Name x pos) (tVar i)) : QE X W (.Name x pos) (tVar i) (qVar i) := by
  refine ⟨h, fun DW G H p M s Q Q' hw S q k => ?_⟩
  unfold qVar at q
  split at q
  · next d e =>
    obtain ⟨v, h1, h2⟩ := S.env i d e
    exact ⟨v, h1, k G H M d v (Same.refl _) S h2 q⟩
  · exact q.elim
theorem qv (i : Nat) (hN : X.N[i]? = some x := by rfl) (hv : Vis X.env.scope x := by first | exact Or.inl rfl | exact Or.inr (Or.inl rfl) | exact Or.inr (Or.inr rfl)) (hd : (x == ("__debug__" : Str)) = false := by decide)
    (hcd : (x == ("__classdict__" : Str)) = false := by decide) : QE X W (.Name x pos) (tVar i) (qVar i) := qe_var (pe_var hN hv hd hcd)
theorem qe_c {e : Expr} {v : V} {d : D} (h : PE X e (tC v)) (r : ∀ G, Rep X.K G d v) : QE X W e (tC v) (qC d) :=
  ⟨h, fun DW G H p M s Q Q' hw S q k => k G H M d v (Same.refl _) S (r G) q⟩
theorem q_int {i j pos} : QE X W (.Constant (.int i) j pos) (tC (.int i)) (qC (.int i)) := qe_c pe_int fun _ => rfl
theorem q_bl {i j pos} : QE X W (.Constant (.bool i) j pos) (tC (.bl i)) (qC (.bl i)) := qe_c pe_bl fun _ => rfl
theorem q_non {j pos} : QE X W (.Constant .none j pos) (tC .non) (qC .non) := qe_c pe_non fun _ => rfl
theorem q_str {i j pos} (h : (decide (i.length ≤ 100000) && PyData.strOk i) = true := by decide +kernel) : QE X W (.Constant (.str i) j pos) (tC (.str i)) (qC (.str i)) :=
  qe_c pe_str fun _ => by
    rw [Bool.and_eq_true] at h
    exact ⟨rfl, sz1000 (of_decide_eq_true h.1), h.2⟩
/-- a constant of the module, a def, a class -/
theorem q_glob {x : Str} {v : V} {d : D} {u : Value} {pos : Pos} (hg : Gl X x) (hm : X.mg x = some u) (r : RelV v u) (rd : ∀ G, Rep X.K G d v) (hd : (x == ("__debug__" : Str)) = false := by decide) : QE X W (.Name x pos) (tC v) (qC d) :=
  qe_c (pe_glob hg hm r hd) rd
end
@[simp] def qNil : DTA := fun _ _ M Q => Q [] M
@[simp] def qCons (qa : DTE) (qr : DTA) : DTA := fun DW p M Q => qa DW p M fun x M1 => qr DW p M1 fun xs M2 => Q (x :: xs) M2
@[simp] def qTup (qa : DTA) : DTE := fun DW p M Q => qa DW p M fun ds M1 => ds.length ≤ 100000 ∧ Q (.tup ds) M1
@[simp] def qLst (m : Bool) (qa : DTA) : DTE := fun DW p M Q => qa DW p M fun ds M1 => ds.length ≤ 100000 ∧ newL m ds M1 Q
section
variable {X : Cx} {W : WX} {e : Expr} {es : List Expr} {te : TE} {qe : DTE} {t : TA} {q : DTA} {pos : Pos}
theorem qa_nil : QA X W [] tNil qNil := ⟨pa_nil, fun DW G H p M s Q Q' hw S q k => k G H M [] [] (Same.refl _) S rfl q⟩
theorem qa_cons (ha : QE X W e te qe) (hr : QA X W es t q) (hs : starEach (e :: es) X.env = (false, eval e X.env) :: starEach es X.env := by rfl) : QA X W (e :: es) (tCons te t) (qCons qe q) :=
  ⟨pa_cons ha.pe hr.pe hs, fun DW G H p M s Q Q' hw S h k => ha.rf DW G H p M s _ _ hw S h fun G1 H1 M1 d v e1 S1 r1 h1 =>
    hr.rf DW G1 H1 p M1 s _ _ (hw.mono e1) S1 h1 fun G2 H2 M2 ds vs e2 S2 r2 h2 => k G2 H2 M2 _ _ (e1.trans e2) S2 (RepL.cons (Rep.mono e2 _ _ r1) r2) h2⟩
theorem q_tup {x1} (h : QA X W es t q) : QE X W (.Tuple es x1 pos) (tTup t) (qTup q) :=
  ⟨pe_tup h.pe, fun DW G H p M s Q Q' hw S hq k => h.rf DW G H p M s _ _ hw S hq fun G1 H1 M1 ds vs e1 S1 r1 ⟨hl, h1⟩ =>
    have z : vs.length ≤ sizeLine := by rw [r1.length]; exact sz1000 hl
    ⟨z, fun a ha => newT_ok S1 ha r1 z h1 fun G2 H2 M2 d w e2 => k G2 H2 M2 d w (e1.trans e2)⟩⟩
theorem q_lst (m : Bool) (h : QA X W es t q) : QE X W (.List es pos) (tLst t) (qLst m q) :=
  ⟨pe_lst h.pe, fun DW G H p M s Q Q' hw S hq k => h.rf DW G H p M s _ _ hw S hq fun G1 H1 M1 ds vs e1 S1 r1 ⟨hl, h1⟩ =>
    have z : vs.length ≤ sizeLine := by rw [r1.length]; exact sz1000 hl
    ⟨z, fun a ha => newL_ok S1 ha r1 z h1 fun G2 H2 M2 d w e2 => k G2 H2 M2 d w (e1.trans e2)⟩⟩
end
@[simp] def qOp (o : DOp) (qa qb : DTE) : DTE := fun DW p M Q => qa DW p M fun x M1 => qb DW p M1 fun y M2 => o x y M2 Q
@[simp] def qUn (o : DUn) (qa : DTE) : DTE := fun DW p M Q => qa DW p M fun x M1 => o x M1 Q
@[simp] def qCB (r : DCa) (qa : DTA) : DTE := fun DW p M Q => qa DW p M fun xs M1 => r xs M1 Q
section
variable {K : PySem.W.Frag} {W : WX}
theorem ref_op {r : R2} {o : DOp} {ta tb : TE} {qa qb : DTE} (hr : RefR2 K r o) (ha : RefE K W ta qa) (hb : RefE K W tb qb) : RefE K W (tOp r ta tb) (qOp o qa qb) :=
  fun DW G H p M s Q Q' hw S h k => ha DW G H p M s _ _ hw S h fun G1 H1 M1 d v e1 S1 r1 h1 =>
    hb DW G1 H1 p M1 s _ _ (hw.mono e1) S1 h1 fun G2 H2 M2 d2 v2 e2 S2 r2 h2 => hr G2 H2 p M2 s d d2 v v2 Q Q' S2 (Rep.mono e2 _ _ r1) r2 h2 fun G3 H3 M3 d w e3 => k G3 H3 M3 d w ((e1.trans e2).trans e3)
theorem ref_un {r : V → Hp → VK → Prop} {o : DUn} {ta : TE} {qa : DTE} (hr : RefU K r o) (ha : RefE K W ta qa) : RefE K W (tUn r ta) (qUn o qa) :=
  fun DW G H p M s Q Q' hw S h k => ha DW G H p M s _ _ hw S h fun G1 H1 M1 d v e1 S1 r1 h1 => hr G1 H1 p M1 s d v Q Q' S1 r1 h1 fun G3 H3 M3 d w e3 => k G3 H3 M3 d w (e1.trans e3)
theorem ref_cb {r : List V → Hp → VK → Prop} {o : DCa} {ta : TA} {qa : DTA} (hr : RefC K r o) (ha : RefA K W ta qa) : RefE K W (tCB r ta) (qCB o qa) :=
  fun DW G H p M s Q Q' hw S h k => ha DW G H p M s _ _ hw S h fun G1 H1 M1 d v e1 S1 r1 h1 => hr G1 H1 p M1 s d v Q Q' S1 r1 h1 fun G3 H3 M3 d w e3 => k G3 H3 M3 d w (e1.trans e3)
end
section
variable {X : Cx} {W : WX} {a b : Expr} {ta tb : TE} {qa qb : DTE} {pos : Pos}
theorem q_op {op : Operator} {r : R2} {o : DOp} (ho : QOp X (binaryOp op) r o) (ha : QE X W a ta qa) (hb : QE X W b tb qb) : QE X W (.BinOp a op b pos) (tOp r ta tb) (qOp o qa qb) := ⟨pe_op ho.op ha.pe hb.pe, ref_op ho.rf ha.rf hb.rf⟩
theorem q_cmp {op : CmpOp} {r : R2} {o : DOp} (ho : QOp X (compareOp op) r o) (ha : QE X W a ta qa) (hb : QE X W b tb qb) (hm : behindInMarks op b = false := by first | exact nomark _ | rfl) : QE X W (.Compare a [op] [b] pos) (tOp r ta tb) (qOp o qa qb) := ⟨pe_cmpR ho.op ha.pe hb.pe hm, ref_op ho.rf ha.rf hb.rf⟩
/-- a truth as a test -/
@[simp] def qTB (q : DTE) : DTT := fun DW p M Q => q DW p M fun d M1 => match d with | .bl b => Q b M1 | _ => False
theorem ref_tb {K : PySem.W.Frag} {t : TE} {q : DTE} (h : RefE K W t q) : RefT K W (tTest t) (qTB q) := fun DW G H p M s Q Q' hw S hq k => h DW G H p M s _ _ hw S hq fun G1 H1 M1 d v e1 S1 r1 h1 => by
  cases d with
  | bl b => cases r1; exact ⟨b, rfl, k G1 H1 M1 b e1 S1 h1⟩
  | _ => exact h1.elim
theorem ref_tb' {K : PySem.W.Frag} {t : TE} {q : DTE} (h : RefE K W t q) : RefT K W (tB t) (qTB q) := ref_tb h
theorem qt_cmp {op : CmpOp} {r : R2} {o : DOp} (ho : QOp X (compareOp op) r o) (ha : QE X W a ta qa) (hb : QE X W b tb qb) (hm : behindInMarks op b = false := by first | exact nomark _ | rfl) : QT X W (.Compare a [op] [b] pos) (tTest (tOp r ta tb)) (qTB (qOp o qa qb)) := ⟨pt_cmpR ho.op ha.pe hb.pe hm, ref_tb (ref_op ho.rf ha.rf hb.rf)⟩
theorem qt_val (ha : QE X W a ta qa) (he : ∀ whole, isTrue a X.env whole = (do let v ← whole; standAt a.pos; holding [v] (truthy v)) := by intro _; rfl) : QT X W a (tB ta) (qTB qa) := ⟨pt_val ha.pe he, ref_tb' ha.rf⟩
def qChain (o o' : DOp) (qa qb qc : DTE) : DTE := fun DW p M Q => qa DW p M fun x M1 => qb DW p M1 fun y M2 => o x y M2 fun z M3 => match z with
  | .bl k => if k = true then qc DW p M3 fun w M4 => o' y w M4 Q else Q (.bl false) M3
  | _ => False
@[simp] def qAnd (qt qu : DTT) : DTT := fun DW p M Q => qt DW p M fun c M1 => if c = true then qu DW p M1 Q else Q false M1
@[simp] def qOr (qt qu : DTT) : DTT := fun DW p M Q => qt DW p M fun c M1 => if c = true then Q true M1 else qu DW p M1 Q
@[simp] def qNot (qt : DTT) : DTT := fun DW p M Q => qt DW p M fun c M1 => Q (!c) M1
variable {t u : TT} {qt qu : DTT} {rest : List Expr}
theorem qw_and1 (h : QT X W a t qt) : QW X W (.BoolOp .And [a] pos) t qt := ⟨pw_and1 h.pe, h.rf⟩
theorem qw_or1 (h : QT X W a t qt) : QW X W (.BoolOp .Or [a] pos) t qt := ⟨pw_or1 h.pe, h.rf⟩
theorem qw_and (h : QT X W a t qt) (g : QW X W (.BoolOp .And (b :: rest) pos) u qu) : QW X W (.BoolOp .And (a :: b :: rest) pos) (tAnd t u) (qAnd qt qu) :=
  ⟨pw_and h.pe g.pe, fun DW G H p M s Q Q' hw S hq k => h.rf DW G H p M s _ _ hw S hq fun G1 H1 M1 c e1 S1 h1 => by
    cases c with
    | true =>
      rw [if_pos rfl] at h1 ⊢
      exact g.rf DW G1 H1 p M1 s _ _ (hw.mono e1) S1 h1 fun G2 H2 M2 c e2 => k G2 H2 M2 c (e1.trans e2)
    | false =>
      rw [if_neg Bool.false_ne_true] at h1 ⊢
      exact k G1 H1 M1 false e1 S1 h1⟩
theorem qw_or (h : QT X W a t qt) (g : QW X W (.BoolOp .Or (b :: rest) pos) u qu) : QW X W (.BoolOp .Or (a :: b :: rest) pos) (tOr t u) (qOr qt qu) :=
  ⟨pw_or h.pe g.pe, fun DW G H p M s Q Q' hw S hq k => h.rf DW G H p M s _ _ hw S hq fun G1 H1 M1 c e1 S1 h1 => by
    cases c with
    | true =>
      rw [if_pos rfl] at h1 ⊢
      exact k G1 H1 M1 true e1 S1 h1
    | false =>
      rw [if_neg Bool.false_ne_true] at h1 ⊢
      exact g.rf DW G1 H1 p M1 s _ _ (hw.mono e1) S1 h1 fun G2 H2 M2 c e2 => k G2 H2 M2 c (e1.trans e2)⟩
theorem qt_not (h : QT X W a t qt) : QT X W (.UnaryOp .Not a pos) (tNot t) (qNot qt) :=
  ⟨pt_not h.pe, fun DW G H p M s Q Q' hw S hq k => h.rf DW G H p M s _ _ hw S hq fun G1 H1 M1 c e1 S1 h1 => k G1 H1 M1 _ e1 S1 h1⟩
/-- as values, all truths -/
@[simp] def qAndV (qa qb : DTE) : DTE := fun DW p M Q => qa DW p M fun x M1 => match x with
  | .bl c => if c = true then qb DW p M1 Q else Q (.bl false) M1
  | _ => False
@[simp] def qOrV (qa qb : DTE) : DTE := fun DW p M Q => qa DW p M fun x M1 => match x with
  | .bl c => if c = true then Q (.bl true) M1 else qb DW p M1 Q
  | _ => False
@[simp] def qNotV (qa : DTE) : DTE := fun DW p M Q => qa DW p M fun x M1 => match x with
  | .bl c => Q (.bl (!c)) M1
  | _ => False
theorem q_one {op} (h : QE X W a ta qa) : QE X W (.BoolOp op [a] pos) ta qa := ⟨pe_one h.pe, h.rf⟩
theorem q_and (h : QE X W a ta qa) (g : QE X W (.BoolOp .And (b :: rest) pos) tb qb) : QE X W (.BoolOp .And (a :: b :: rest) pos) (tAndV ta tb) (qAndV qa qb) :=
  ⟨pe_and h.pe g.pe, fun DW G H p M s Q Q' hw S hq k => h.rf DW G H p M s _ _ hw S hq fun G1 H1 M1 d v e1 S1 r1 h1 => by
    cases d with
    | bl c =>
      cases r1
      refine ⟨c, rfl, ?_⟩
      cases c with
      | true =>
        rw [if_pos rfl]
        exact g.rf DW G1 H1 p M1 s _ _ (hw.mono e1) S1 h1 fun G2 H2 M2 d v e2 => k G2 H2 M2 d v (e1.trans e2)
      | false =>
        rw [if_neg Bool.false_ne_true]
        exact k G1 H1 M1 (.bl false) _ e1 S1 rfl h1
    | _ => exact h1.elim⟩
theorem q_not (h : QE X W a ta qa) : QE X W (.UnaryOp .Not a pos) (tNotV ta) (qNotV qa) :=
  ⟨pe_not h.pe, fun DW G H p M s Q Q' hw S hq k => h.rf DW G H p M s _ _ hw S hq fun G1 H1 M1 d v e1 S1 r1 h1 => by
    cases d with
    | bl c => cases r1; exact ⟨c, rfl, k G1 H1 M1 (.bl (!c)) _ e1 S1 rfl h1⟩
    | _ => exact h1.elim⟩
@[simp] def qIf (qt : DTT) (qa qb : DTE) : DTE := fun DW p M Q => qt DW p M fun c M1 => if c = true then qa DW p M1 Q else qb DW p M1 Q
theorem q_if {c : Expr} (h : QT X W c t qt) (ha : QE X W a ta qa) (hb : QE X W b tb qb) : QE X W (.IfExp c a b pos) (tIf t ta tb) (qIf qt qa qb) :=
  ⟨pe_ifExp h.pe ha.pe hb.pe, fun DW G H p M s Q Q' hw S hq k => h.rf DW G H p M s _ _ hw S hq fun G1 H1 M1 c e1 S1 h1 => by
    cases c with
    | true =>
      rw [if_pos rfl] at h1 ⊢
      exact ha.rf DW G1 H1 p M1 s _ _ (hw.mono e1) S1 h1 fun G2 H2 M2 d v e2 => k G2 H2 M2 d v (e1.trans e2)
    | false =>
      rw [if_neg Bool.false_ne_true] at h1 ⊢
      exact hb.rf DW G1 H1 p M1 s _ _ (hw.mono e1) S1 h1 fun G2 H2 M2 d v e2 => k G2 H2 M2 d v (e1.trans e2)⟩
end
section
variable {X : Cx} {W : WX} {x : Str} {p pos : Pos} {e : Expr} {es : List Expr} {t : TA} {q : DTA} {id T : String} {r : List V → Hp → VK → Prop} {o : DCa}
theorem q_callB (hc : QCa X (.builtin id) r o) (hg : Gl X x) (hm : X.mg x = none) (hv : bootBuiltins x = some (.builtin id)) (ha : QA X W (e :: es) t q) (hn : x ≠ "__name__" := by decide) (hdb : (x == ("__debug__" : Str)) = false := by decide)
    (he : starEach (e :: es) X.env = (false, eval e X.env) :: starEach es X.env := by rfl) (hpl : (backTo pos (starEach es X.env)).any (·.1) = false := by rfl) : QE X W (.Call (.Name x p) (e :: es) [] pos) (tCB r t) (qCB o q) :=
  ⟨pe_callB hc.op hg hm hv ha.pe hn hdb he hpl, ref_cb hc.rf ha.rf⟩
theorem q_callTy (hc : QCa X (.type T) r o) (hg : Gl X x) (hm : X.mg x = none) (hv : bootBuiltins x = some (.type T)) (ha : QA X W (e :: es) t q) (hn : x ≠ "__name__" := by decide) (hdb : (x == ("__debug__" : Str)) = false := by decide)
    (he : starEach (e :: es) X.env = (false, eval e X.env) :: starEach es X.env := by rfl) (hpl : (backTo pos (starEach es X.env)).any (·.1) = false := by rfl) : QE X W (.Call (.Name x p) (e :: es) [] pos) (tCB r t) (qCB o q) :=
  ⟨pe_callTy hc.op hg hm hv ha.pe hn hdb he hpl, ref_cb hc.rf ha.rf⟩
end
end DL
namespace DL
open PySem L2
theorem OpR.or {X : Cx} {f : Value → Value → Sem Value} {r r' : R2} (h : OpR X f r) (h' : OpR X f r') : OpR X f (fun x y H Q => r x y H Q ∨ r' x y H Q) := by
  intro pins s σ H x y v u Q I rx ry q
  rcases q with q | q
  · exact h pins s σ H x y v u Q I rx ry q
  · exact h' pins s σ H x y v u Q I rx ry q
theorem CallR.or {X : Cx} {f : Value} {r r' : List V → Hp → VK → Prop} (h : CallR X f r) (h' : CallR X f r') : CallR X f (fun xs H Q => r xs H Q ∨ r' xs H Q) := by
  intro pins s σ H xs us Q I rs q
  rcases q with q | q
  · exact h pins s σ H xs us Q I rs q
  · exact h' pins s σ H xs us Q I rs q
mutual
def pyd : D → PyData
  | .non => .none
  | .bl b => .bool b
  | .int i => .int i
  | .str x => .str x
  | .tup ds => .tuple (pydL ds)
  | .ktp ds => .tuple (pydL ds)
  | .xtp ds => .tuple (pydL ds)
  | .lst ds => .list (pydL ds)
  | _ => .none
def pydL : List D → List PyData
  | [] => []
  | d :: ds => pyd d :: pydL ds
end
mutual
def isData : D → Bool
  | .non => true
  | .bl _ => true
  | .int _ => true
  | .str _ => true
  | .tup ds => isDataL ds
  | .ktp ds => isDataL ds
  | .xtp ds => isDataL ds
  | .lst ds => isDataL ds
  | _ => false
def isDataL : List D → Bool
  | [] => true
  | d :: ds => isData d && isDataL ds
end
/-- how deep -/
def dep (d : D) : Nat := (pyd d).depth
mutual
theorem dp_of {K : PySem.W.Frag} {G H : Hp} (e : Same G H) : ∀ (d : D) (v : V), isData d = true → Rep K G d v → Dp K H v (pyd d)
  | .non, _, _, h => by cases h; exact .non
  | .bl b, _, _, h => by cases h; exact .bl b
  | .int i, _, _, h => by cases h; exact .int i
  | .str x, _, _, h => by obtain ⟨h, _⟩ := h; subst h; exact .str x
  | .tup ds, _, i, ⟨a, vs, h1, h2, h3, h4⟩ => by subst h1; exact .tup (.inl (.inl (e _ _ h2))) (dpl_of e ds vs i h3)
  | .ktp ds, _, i, ⟨a, vs, h1, h2, h3, h4⟩ => by subst h1; exact .tup (same_t e h2) (dpl_of e ds vs i h3)
  | .xtp ds, _, i, ⟨a, o, vs, h1, h2, h3, h4, h5⟩ => by subst h1; exact .tup (.inl (.inr ⟨o, e _ _ h2⟩)) (dpl_of e ds vs i h4)
  | .lst ds, _, i, ⟨a, vs, h1, h2, h3, h4⟩ => by subst h1; exact .lst (.inl (.inl (e _ _ h2))) (dpl_of e ds vs i h3)
  | .scr _, _, i, _ => by cases i
  | .ty _, _, i, _ => by cases i
  | .ref _, _, i, _ => by cases i
  | .dct _ _, _, i, _ => by cases i
  | .ins _ _ _, _, i, _ => by cases i
  | .exc _ _ _ _, _, i, _ => by cases i
  | .fnv _ _ _ _ _, _, i, _ => by cases i
theorem dpl_of {K : PySem.W.Frag} {G H : Hp} (e : Same G H) : ∀ (ds : List D) (vs : List V), isDataL ds = true → RepL K G ds vs → DpAll K H vs (pydL ds)
  | [], _, _, h => by cases h; exact .nil
  | d :: ds, _, i, ⟨v, r, h1, h2, h3⟩ => by
    subst h1
    have i' : isData d = true ∧ isDataL ds = true := by simpa [isDataL] using i
    exact .cons (dp_of e d v i'.1 h2) (dpl_of e ds r i'.2 h3)
end
mutual
theorem lay_of {K : PySem.W.Frag} {G : Hp} : ∀ (d : D) (v : V), isData d = true → Rep K G d v → (pyd d).canLay0 = true
  | .non, _, _, _ => rfl
  | .bl b, _, _, _ => rfl
  | .int i, _, _, _ => rfl
  | .str x, _, _, h => h.2.2
  | .tup ds, _, i, ⟨a, vs, h1, h2, h3, h4⟩ => layl_of ds vs i h3
  | .ktp ds, _, i, ⟨a, vs, h1, h2, h3, h4⟩ => layl_of ds vs i h3
  | .xtp ds, _, i, ⟨a, o, vs, h1, h2, h3, h4, h5⟩ => layl_of ds vs i h4
  | .lst ds, _, i, ⟨a, vs, h1, h2, h3, h4⟩ => layl_of ds vs i h3
  | .scr _, _, i, _ => by cases i
  | .ty _, _, i, _ => by cases i
  | .ref _, _, i, _ => by cases i
  | .dct _ _, _, i, _ => by cases i
  | .ins _ _ _, _, i, _ => by cases i
  | .exc _ _ _ _, _, i, _ => by cases i
  | .fnv _ _ _ _ _, _, i, _ => by cases i
theorem layl_of {K : PySem.W.Frag} {G : Hp} : ∀ (ds : List D) (vs : List V), isDataL ds = true → RepL K G ds vs → PyData.canLayAll0 (pydL ds) = true
  | [], _, _, _ => rfl
  | d :: ds, _, i, ⟨v, r, h1, h2, h3⟩ => by
    have i' : isData d = true ∧ isDataL ds = true := by simpa [isDataL] using i
    simp only [pydL, PyData.canLayAll0, Bool.and_eq_true]
    exact ⟨lay_of d v i'.1 h2, layl_of ds r i'.2 h3⟩
end
theorem data_of {K : PySem.W.Frag} {G H : Hp} {p : Rho} {M : Mst} {s : L2.St} {d e : D} {v : V} (S : Sim K G H p M s) (r : Rep K G d v) (h : res M d = e) (i : isData e = true) : Dp K H v (pyd e) ∧ (pyd e).canLay0 = true := by
  cases d with
  | ref a =>
    cases e with
    | lst es =>
      obtain ⟨a, vs, h1, h2, h3, h4⟩ := as_lst S r h
      subst h1
      exact ⟨.lst (.inl (.inl h2)) (dpl_of S.same _ _ i h3), layl_of _ _ i h3⟩
    | _ =>
      simp only [res] at h
      split at h <;> first | (cases h; done) | (cases h; cases i)
  | ktp es =>
    cases h
    exact ⟨dp_of S.same (.ktp es) v i r, lay_of (.ktp es) v i r⟩
  | xtp es =>
    cases h
    exact ⟨dp_of S.same (.xtp es) v i r, lay_of (.xtp es) v i r⟩
  | _ => cases h; exact ⟨dp_of S.same _ v i r, lay_of _ v i r⟩
def rEqX (K : PySem.W.Frag) (neg : Bool) : R2 := fun x y H Q => ∃ d e, Dp K H x d ∧ Dp K H y e ∧ d.canLay0 = true ∧ e.canLay0 = true ∧ min d.depth e.depth ≤ 64 ∧ Q (.bl (xor neg (PyData.eqv d e))) H
theorem op_eqX {X : Cx} (hu : X.A.units + 64 < cLine) : OpR X (compareOp .Eq) (rEqX X.K false) := by
  intro pins s σ H x y v u Q I rx ry h
  obtain ⟨d, e, hd, he, sd, se, hm, q⟩ := h
  obtain ⟨as, r1⟩ := Dp.reads I d x v hd rx
  obtain ⟨bs, r2⟩ := Dp.reads I e y u he ry
  refine SeqAt.compareEq_reads r1 r2 sd se (by omega) ⟨.bl _, H, I, rfl, ?_⟩
  simpa using q
theorem op_neX {X : Cx} (hu : X.A.units + 64 < cLine) : OpR X (compareOp .NotEq) (rEqX X.K true) := by
  intro pins s σ H x y v u Q I rx ry h
  obtain ⟨d, e, hd, he, sd, se, hm, q⟩ := h
  obtain ⟨as, r1⟩ := Dp.reads I d x v hd rx
  obtain ⟨bs, r2⟩ := Dp.reads I e y u he ry
  refine SeqAt.compareNe_reads r1 r2 sd se (by omega) ⟨.bl _, H, I, rfl, ?_⟩
  simpa using q
/-- == of data -/
def deq (x y : D) : Bool := PyData.eqv (pyd x) (pyd y)
def deqL (x y : List D) : Bool := PyData.eqvAll (pydL x) (pydL y)
def dEq (neg : Bool) : DOp := fun x y M Q => isData (res M x) = true ∧ isData (res M y) = true ∧ min (dep (res M x)) (dep (res M y)) ≤ 64 ∧ Q (.bl (xor neg (deq (res M x) (res M y)))) M
theorem ref_eq {K : PySem.W.Frag} {neg : Bool} : RefR2 K (rEqX K neg) (dEq neg) := fun G H p M s x y v u Q Q' S r1 r2 ⟨i1, i2, hm, q⟩ k => by
  obtain ⟨a1, a2⟩ := data_of S r1 rfl i1
  obtain ⟨b1, b2⟩ := data_of S r2 rfl i2
  exact ⟨_, _, a1, b1, a2, b2, hm, k G H M (.bl _) _ (Same.refl _) S rfl q⟩
theorem o_eq {X : Cx} (hu : X.A.units + 64 < cLine) : QOp X (compareOp .Eq) (rEqX X.K false) (dEq false) := ⟨op_eqX hu, ref_eq⟩
theorem o_ne {X : Cx} (hu : X.A.units + 64 < cLine) : QOp X (compareOp .NotEq) (rEqX X.K true) (dEq true) := ⟨op_neX hu, ref_eq⟩
def dInt (C : Int → Int → Prop) (g : Int → Int → Int) : DOp := fun x y M Q => match x, y with
  | .int i, .int j => C i j ∧ Q (.int (g i j)) M
  | _, _ => False
theorem ref_int {K : PySem.W.Frag} {C : Int → Int → Prop} {g : Int → Int → Int} : RefR2 K (rI C fun i j => .int (g i j)) (dInt C g) := fun G H p M s x y v u Q Q' S r1 r2 h k => by
  cases x with
  | int i =>
    cases y with
    | int j => cases r1; cases r2; exact ⟨i, j, rfl, rfl, h.1, k G H M (.int (g i j)) _ (Same.refl _) S rfl h.2⟩
    | _ => exact h.elim
  | _ => exact h.elim
def dInt0 (g : Int → Int → Int) : DOp := fun x y M Q => match x, y with
  | .int i, .int j => Q (.int (g i j)) M
  | _, _ => False
theorem ref_int0 {K : PySem.W.Frag} {g : Int → Int → Int} : RefR2 K (rI0 fun i j => .int (g i j)) (dInt0 g) := fun G H p M s x y v u Q Q' S r1 r2 h k => by
  cases x with
  | int i =>
    cases y with
    | int j => cases r1; cases r2; exact ⟨i, j, rfl, rfl, k G H M (.int (g i j)) _ (Same.refl _) S rfl h⟩
    | _ => exact h.elim
  | _ => exact h.elim
theorem o_sub {X : Cx} : QOp X (binaryOp .Sub) (rI0 fun i j => .int (i - j)) (dInt0 fun i j => i - j) := ⟨op_sub, ref_int0⟩
theorem o_mulI {X : Cx} : QOp X (binaryOp .Mult) (rI CMul fun i j => .int (i * j)) (dInt CMul fun i j => i * j) := ⟨op_mul, ref_int⟩
theorem o_fdiv {X : Cx} : QOp X (binaryOp .FloorDiv) (rI CDiv fun i j => .int (i / j)) (dInt CDiv fun i j => i / j) := ⟨op_fdiv, ref_int⟩
theorem o_mod {X : Cx} : QOp X (binaryOp .Mod) (rI (fun _ j => 0 < j) fun i j => .int (i % j)) (dInt (fun _ j => 0 < j) fun i j => i % j) := ⟨op_mod, ref_int⟩
theorem o_pow {X : Cx} : QOp X (binaryOp .Pow) (rI CPow fun i j => .int (i ^ j.toNat)) (dInt CPow fun i j => i ^ j.toNat) := ⟨op_pow, ref_int⟩
/-- <, <=, >, >= of whole numbers; < of texts -/
def dCmpI (g : Int → Int → Bool) : DOp := fun x y M Q => match x, y with
  | .int i, .int j => Q (.bl (g i j)) M
  | _, _ => False
theorem ref_cmpI {K : PySem.W.Frag} {g : Int → Int → Bool} : RefR2 K (rI0 fun i j => .bl (g i j)) (dCmpI g) := fun G H p M s x y v u Q Q' S r1 r2 h k => by
  cases x with
  | int i =>
    cases y with
    | int j => cases r1; cases r2; exact ⟨i, j, rfl, rfl, k G H M (.bl (g i j)) _ (Same.refl _) S rfl h⟩
    | _ => exact h.elim
  | _ => exact h.elim
theorem o_lt {X : Cx} : QOp X (compareOp .Lt) (rI0 fun i j => .bl (decide (i < j))) (dCmpI fun i j => decide (i < j)) := ⟨op_lt, ref_cmpI⟩
theorem o_gt {X : Cx} : QOp X (compareOp .Gt) (rI0 fun i j => .bl (decide (j < i))) (dCmpI fun i j => decide (j < i)) := ⟨op_gt, ref_cmpI⟩
theorem o_ge {X : Cx} : QOp X (compareOp .GtE) (rI0 fun i j => .bl (decide (j ≤ i))) (dCmpI fun i j => decide (j ≤ i)) := ⟨op_ge, ref_cmpI⟩
def dNeg : DUn := fun x M Q => match x with
  | .int i => Q (.int (-i)) M
  | _ => False
theorem ref_neg {K : PySem.W.Frag} : RefU K (rU fun i => .int (-i)) dNeg := fun G H p M s x v Q Q' S r1 h k => by
  cases x with
  | int i => cases r1; exact ⟨i, rfl, k G H M (.int (-i)) _ (Same.refl _) S rfl h⟩
  | _ => exact h.elim
theorem q_neg {X : Cx} {W : WX} {a : Expr} {ta : TE} {qa : DTE} {pos : Pos} (ha : QE X W a ta qa) : QE X W (.UnaryOp .USub a pos) (tUn (rU fun i => .int (-i)) ta) (qUn dNeg qa) := ⟨pe_un un_neg ha.pe, ref_un ref_neg ha.rf⟩
def isNon : D → Bool
  | .non => true
  | _ => false
def dIs (neg : Bool) : DOp := fun x y M Q => match y with
  | .non => Q (.bl (xor neg (isNon x))) M
  | _ => False
theorem strOk_append {a b : Str} (h1 : PyData.strOk a = true) (h2 : PyData.strOk b = true) : PyData.strOk (a ++ b) = true := by
  have e : (a ++ b).cps = a.cps ++ b.cps := rfl
  unfold PyData.strOk at *
  rw [e, Array.all_append, h1, h2]; rfl
theorem len_append {a b : Str} : (a ++ b).length = a.length + b.length := by
  show (a.cps ++ b.cps).size = _
  rw [Array.size_append]; rfl
def rAddX (K : PySem.W.Frag) : R2 := fun x y H Q => rI0 (fun i j => .int (i + j)) x y H Q ∨ (∃ i j, x = .str i ∧ y = .str j ∧ i.length + j.length ≤ sizeLine ∧ Q (.str (i ++ j)) H) ∨ rCat x y H Q ∨ rCatA K x y H Q ∨ ∃ b j, x = .bl b ∧ y = .int j ∧ Q (.int ((if b = true then 1 else 0) + j)) H
theorem op_add_bi {X : Cx} : OpR X (binaryOp .Add) (fun x y H Q => ∃ b j, x = .bl b ∧ y = .int j ∧ Q (.int ((if b = true then 1 else 0) + j)) H) := by
  intro pins s σ H x y v u Q I rx ry h
  obtain ⟨k, i, rfl, rfl, q⟩ := h
  obtain ⟨t, rfl⟩ := ry
  cases rx
  exact IntBool.add_bool_int ⟨.int ((if k = true then 1 else 0) + i), H, I.tok _, ⟨_, rfl⟩, q⟩
def dAdd (m : Bool) : DOp := fun x y M Q => match x, y with
  | .tup a, .tup b => a.length + b.length ≤ 100000 ∧ Q (.tup (a ++ b)) M
  | _, _ => match res M x, res M y with
    | .int i, .int j => Q (.int (i + j)) M
    | .str a, .str b => a.length + b.length ≤ 100000 ∧ Q (.str (a ++ b)) M
    | .lst a, .lst b => a.length + b.length ≤ 100000 ∧ newL m (a ++ b) M Q
    | .bl k, .int j => Q (.int ((if k = true then 1 else 0) + j)) M
    | .tup a, .tup b => a.length + b.length ≤ 100000 ∧ (a = [] → Q y M) ∧ (a ≠ [] → b = [] → Q x M) ∧ (a ≠ [] → b ≠ [] → Q (.tup (a ++ b)) M)
    | _, _ => False
theorem ref_add {K : PySem.W.Frag} {m : Bool} : RefR2 K (rAddX K) (dAdd m) := fun G H p M s x y v u Q Q' S r1 r2 h k => by
  unfold dAdd at h
  split at h
  · next a b =>
    obtain ⟨a1, vs, rfl, h1, h2, h3⟩ := r1
    obtain ⟨b1, us, rfl, g1, g2, g3⟩ := r2
    have z : vs.length + us.length ≤ sizeLine := by rw [h2.length, g2.length]; exact sz1000 h.1
    refine .inr (.inr (.inr (.inl ⟨a1, b1, vs, us, rfl, rfl, .inl (.inl (S.same _ _ h1)), .inl (.inl (S.same _ _ g1)), z, fun e => ?_, fun _ e => ?_, fun _ _ q hq => newT_ok S hq (RepL.append h2 g2) (by rw [List.length_append]; exact z) h.2 k⟩)))
    · have ea : a = [] := List.eq_nil_of_length_eq_zero (by rw [← h2.length, e]; rfl)
      refine k G H M (.tup b) _ (Same.refl _) S ⟨b1, us, rfl, g1, g2, g3⟩ ?_
      have := h.2; rw [ea] at this; simpa using this
    · have ea : b = [] := List.eq_nil_of_length_eq_zero (by rw [← g2.length, e]; rfl)
      refine k G H M (.tup a) _ (Same.refl _) S ⟨a1, vs, rfl, h1, h2, h3⟩ ?_
      have := h.2; rw [ea] at this; simpa using this
  · split at h
    · next i j e1 e2 =>
      cases as_int r1 e1
      cases as_int r2 e2
      exact .inl ⟨i, j, rfl, rfl, k G H M (.int (i + j)) _ (Same.refl _) S rfl h⟩
    · next a b e1 e2 =>
      obtain ⟨rfl, l1, o1⟩ := as_str r1 e1
      obtain ⟨rfl, l2, o2⟩ := as_str r2 e2
      exact .inr (.inl ⟨a, b, rfl, rfl, sz1000 h.1, k G H M (.str (a ++ b)) _ (Same.refl _) S ⟨rfl, by rw [len_append]; exact sz1000 h.1, strOk_append o1 o2⟩ h.2⟩)
    · next a b e1 e2 =>
      obtain ⟨a1, vs, rfl, h1, h2, h3⟩ := as_lst S r1 e1
      obtain ⟨b1, us, rfl, g1, g2, g3⟩ := as_lst S r2 e2
      have z : vs.length + us.length ≤ sizeLine := by rw [h2.length, g2.length]; exact sz1000 h.1
      exact .inr (.inr (.inl ⟨a1, b1, vs, us, rfl, rfl, h1, g1, z, fun q hq => newL_ok S hq (RepL.append h2 g2) (by rw [List.length_append]; exact z) h.2 k⟩))
    · next b j e1 e2 =>
      cases as_bl r1 e1
      cases as_int r2 e2
      exact .inr (.inr (.inr (.inr ⟨b, j, rfl, rfl, k G H M (.int _) _ (Same.refl _) S rfl h⟩)))
    · next a b e1 e2 =>
      obtain ⟨a1, vs, rfl, h1, h2, h3⟩ := as_tup S r1 e1
      obtain ⟨b1, us, rfl, g1, g2, g3⟩ := as_tup S r2 e2
      obtain ⟨hl, k0, k1, k2⟩ := h
      have z : vs.length + us.length ≤ sizeLine := by rw [h2.length, g2.length]; exact sz1000 hl
      have ev : vs = [] ↔ a = [] := ⟨fun e => List.eq_nil_of_length_eq_zero (by rw [← h2.length, e]; rfl), fun e => List.eq_nil_of_length_eq_zero (by rw [h2.length, e]; rfl)⟩
      have eu : us = [] ↔ b = [] := ⟨fun e => List.eq_nil_of_length_eq_zero (by rw [← g2.length, e]; rfl), fun e => List.eq_nil_of_length_eq_zero (by rw [g2.length, e]; rfl)⟩
      exact .inr (.inr (.inr (.inl ⟨a1, b1, vs, us, rfl, rfl, h1, g1, z, fun e => k G H M y _ (Same.refl _) S r2 (k0 (ev.mp e)), fun e0 e => k G H M x _ (Same.refl _) S r1 (k1 (fun q => e0 (ev.mpr q)) (eu.mp e)),
        fun e0 e q hq => newT_ok S hq (RepL.append h2 g2) (by rw [List.length_append]; exact z) (k2 (fun q => e0 (ev.mpr q)) fun q => e (eu.mpr q)) k⟩)))
    · exact h.elim
theorem o_add {X : Cx} (m : Bool) : QOp X (binaryOp .Add) (rAddX X.K) (dAdd m) := ⟨OpR.or op_add (OpR.or op_add_str (OpR.or op_cat (OpR.or op_catA op_add_bi))), ref_add⟩
def keyD : D → Option Key
  | .int i => some (.inl i)
  | .str x => some (.inr x)
  | _ => none
def keysD : List D → Option (List Key)
  | [] => some []
  | d :: ds => match keyD d, keysD ds with
    | some k, some ks => some (k :: ks)
    | _, _ => none
def valD {κ : Type} [DecidableEq κ] (kvs : List (κ × D)) (k : κ) : Option D := (kvs.find? fun kv => decide (kv.1 = k)).map (·.2)
/-- what a dict holds at a key; none: no dict, or no key of its kind -/
def dgetD (M : Mst) (x y : D) : Option (Option D) := match x with
  | .ref a => match M a with
    | some (.dK kvs) => (keyD y).map (valD kvs)
    | some (.lk _ kvs) => (keyD y).map (valD kvs)
    | some (.dT kvs) => match y with
      | .tup ds => (keysD ds).map (valD kvs)
      | _ => none
    | some (.lkT _ kvs) => match y with
      | .tup ds => (keysD ds).map (valD kvs)
      | _ => none
    | _ => none
  | .dct ks ds => (keyD y).map (valD (ks.zip ds))
  | _ => none
theorem keyD_of {K : PySem.W.Frag} {G : Hp} {d : D} {v : V} {k : Key} (r : Rep K G d v) (h : keyD d = some k) : v = kV k := by
  cases d with
  | int i => cases h; exact r
  | str x => cases h; exact r.1
  | _ => cases h
theorem keysD_of {K : PySem.W.Frag} {G : Hp} : ∀ {ds : List D} {vs : List V} {ks : List Key}, RepL K G ds vs → keysD ds = some ks → vs = ks.map kV
  | [], _, _, h, e => by cases h; cases e; rfl
  | d :: ds, _, ks, ⟨v, r, h1, h2, h3⟩, e => by
    simp only [keysD] at e
    split at e
    · next k ks' e1 e2 =>
      cases e
      rw [h1, keyD_of h2 e1, keysD_of h3 e2]; rfl
    · cases e
theorem valD_rel {κ : Type} [DecidableEq κ] {K : PySem.W.Frag} {G : Hp} : ∀ {kvs : List (κ × D)} {kv : List (κ × V)} (k : κ), kv.map (·.1) = kvs.map (·.1) → RepL K G (kvs.map (·.2)) (kv.map (·.2)) →
    (valD kvs k = none ∧ valV kv k = none) ∨ ∃ d v, valD kvs k = some d ∧ valV kv k = some v ∧ Rep K G d v
  | [], kv, k, h, r => by
    cases kv with
    | nil => exact .inl ⟨rfl, rfl⟩
    | cons _ _ => cases h
  | (a, d) :: kvs, kv, k, h, r => by
    cases kv with
    | nil => cases h
    | cons q kv =>
      obtain ⟨b, v⟩ := q
      simp only [List.map_cons, List.cons.injEq] at h
      obtain ⟨rfl, h⟩ := h
      obtain ⟨v', r', e, h2, h3⟩ := r
      simp only [List.map_cons, List.cons.injEq] at e
      obtain ⟨rfl, rfl⟩ := e
      by_cases z : b = k
      · exact .inr ⟨d, v, by simp [valD, z], by simp [valV, z], h2⟩
      · have := valD_rel k h h3
        simpa [valD, valV, z] using this
theorem zip_fs {α β : Type} : ∀ l : List (α × β), (l.map (·.1)).zip (l.map (·.2)) = l
  | [] => rfl
  | (a, b) :: l => by simp [zip_fs l]
@[simp] theorem zip_fs' {α β : Type} (l : List (α × β)) : (l.map (·.1)).zip (l.map (·.2)) = l := zip_fs l
theorem map_zip1 {α β : Type} : ∀ (l : List α) (m : List β), l.length = m.length → (l.zip m).map (·.1) = l
  | [], [], _ => rfl
  | a :: l, b :: m, h => by simp [map_zip1 l m (by simpa using h)]
theorem map_zip2 {α β : Type} : ∀ (l : List α) (m : List β), l.length = m.length → (l.zip m).map (·.2) = m
  | [], [], _ => rfl
  | a :: l, b :: m, h => by simp [map_zip2 l m (by simpa using h)]
theorem dgetD_of {K : PySem.W.Frag} {G H : Hp} {p : Rho} {M : Mst} {s : L2.St} {x y : D} {v u : V} {r : Option D} (S : Sim K G H p M s) (r1 : Rep K G x v) (r2 : Rep K G y u) (h : dgetD M x y = some r) :
    ∃ a o, v = .ref a ∧ DGet H a u o ∧ ((r = none ∧ o = none) ∨ ∃ d w, r = some d ∧ o = some w ∧ Rep K G d w) := by
  unfold dgetD at h
  split at h
  · next a =>
    cases r1
    split at h
    · next kvs em =>
      obtain ⟨gn, kv, h1, h2, h3, h4⟩ := S.mem _ _ em
      cases ek : keyD y with
      | none => rw [ek] at h; cases h
      | some k =>
        rw [ek] at h
        cases h
        cases keyD_of r2 ek
        exact ⟨a, _, rfl, DGet.k h1, (valD_rel k h2 h3).imp id fun ⟨d, v, a, b, c⟩ => ⟨d, v, a, b, c⟩⟩
    · next ho kvs em =>
      obtain ⟨gn, o, kv, h0, h1, h2, h3, h4⟩ := S.mem _ _ em
      rw [h0] at h1
      cases ek : keyD y with
      | none => rw [ek] at h; cases h
      | some k =>
        rw [ek] at h
        cases h
        cases keyD_of r2 ek
        exact ⟨a, _, rfl, .inl ⟨kv, k, .inr ⟨o, h1⟩, rfl, rfl⟩, (valD_rel k h2 h3).imp id fun ⟨d, v, a, b, c⟩ => ⟨d, v, a, b, c⟩⟩
    · next kvs em =>
      obtain ⟨gn, kv, h1, h2, h3, h4⟩ := S.mem _ _ em
      split at h
      · next ds =>
        obtain ⟨b, vs, rfl, g1, g2, g3⟩ := r2
        cases ek : keysD ds with
        | none => rw [ek] at h; cases h
        | some k =>
          rw [ek] at h
          cases h
          have := keysD_of g2 ek
          exact ⟨a, _, rfl, DGet.t h1 (by rw [S.same _ _ g1, this]), (valD_rel k h2 h3).imp id fun ⟨d, v, a, b, c⟩ => ⟨d, v, a, b, c⟩⟩
      · cases h
    · next ho kvs em =>
      obtain ⟨gn, o, kv, h0, h1, h2, h3, h4⟩ := S.mem _ _ em
      rw [h0] at h1
      split at h
      · next ds =>
        obtain ⟨b, vs, rfl, g1, g2, g3⟩ := r2
        cases ek : keysD ds with
        | none => rw [ek] at h; cases h
        | some k =>
          rw [ek] at h
          cases h
          have := keysD_of g2 ek
          exact ⟨a, _, rfl, .inr ⟨kv, k, b, .inr ⟨o, h1⟩, rfl, by rw [S.same _ _ g1, this], rfl⟩, (valD_rel k h2 h3).imp id fun ⟨d, v, a, b, c⟩ => ⟨d, v, a, b, c⟩⟩
      · cases h
    · cases h
  · next ks ds =>
    obtain ⟨a, kvs, rfl, h1, h2, h3, h4, _⟩ := r1
    cases ek : keyD y with
    | none => rw [ek] at h; cases h
    | some k =>
      rw [ek] at h
      cases h
      cases keyD_of r2 ek
      have hl : ks.length = ds.length := by rw [← h2, ← h3.length]; simp
      refine ⟨a, _, rfl, .inl ⟨kvs, k, same_rd S.same h1, rfl, rfl⟩, (valD_rel k (by rw [map_zip1 _ _ hl]; exact h2) (by rw [map_zip2 _ _ hl]; exact h3)).imp id fun ⟨d, v, a, b, c⟩ => ⟨d, v, a, b, c⟩⟩
  · cases h
def rIxD : R2 := fun x y H Q => ∃ a v, x = .ref a ∧ DGet H a y (some v) ∧ Q v H
theorem ix_dict {X : Cx} (hu : X.A.units + 1 < cLine) : IxR X rIxD := by
  intro value slice pins s σ H x y v u Q I rx ry h hs
  obtain ⟨a, z, rfl, g, q⟩ := h
  cases rx
  exact PyProof.Rows.tail_any (dict_typeIs I g) PySem.F.slot_dict_getitem.lookup (d_getItem hu I g ry fun w' s3 I3 rw' => ⟨z, H, I3, rw', q⟩) hs
def rIxA (K : PySem.W.Frag) : R2 := fun x y H Q => rIx K x y H Q ∨ rIxD x y H Q
def dIx : DOp := fun x y M Q => match dgetD M x y with
  | some (some d) => Q d M
  | some none => False
  | none => match res M x, y with
    | .lst ds, .int i => match atI ds i with | some d => Q d M | none => False
    | .tup ds, .int i => match atI ds i with | some d => Q d M | none => False
    | .str z, .int i => match atI z.cps.toList i with | some c => Q (.str ⟨#[c]⟩) M | none => False
    | .scr ns, .int i => match atI ns i with | some c => Q (.int c) M | none => False
    | _, _ => False
theorem as_scr {K : PySem.W.Frag} {G H : Hp} {p : Rho} {M : Mst} {s : L2.St} {x : D} {v : V} {ns : List Int} (S : Sim K G H p M s) (r : Rep K G x v) (e : res M x = .scr ns) : ∃ a, v = .ref a ∧ SqL K G a (ns.map V.int) := by
  cases x with
  | scr ms => cases e; obtain ⟨a, h1, h2, _⟩ := r; exact ⟨a, h1, h2⟩
  | ref a =>
    simp only [res] at e
    split at e <;> cases e
  | _ => cases e
theorem atI_map {α β : Type} {f : α → β} {xs : List α} {i : Int} {c : α} (h : atI xs i = some c) : atI (xs.map f) i = some (f c) := by
  unfold atI at h ⊢
  rw [List.length_map]
  cases e : ixN xs.length i with
  | none => rw [e] at h; cases h
  | some j =>
    rw [e] at h
    have h' : xs[j]? = some c := h
    show (xs.map f)[j]? = some (f c)
    rw [List.getElem?_map, h']; rfl
theorem atI_rel {K : PySem.W.Frag} {G : Hp} {ds : List D} {vs : List V} {i : Int} {d : D} (r : RepL K G ds vs) (h : atI ds i = some d) : ∃ v, atI vs i = some v ∧ Rep K G d v := by
  unfold atI at h ⊢
  rw [r.length]
  cases e : ixN ds.length i with
  | none => rw [e] at h; cases h
  | some j =>
    rw [e] at h
    exact r.get h
theorem ref_ix {K : PySem.W.Frag} : RefR2 K (rIxA K) dIx := fun G H p M s x y v u Q Q' S r1 r2 h k => by
  unfold dIx at h
  split at h
  · next d e =>
    obtain ⟨a, o, rfl, g, q⟩ := dgetD_of S r1 r2 e
    rcases q with ⟨q, _⟩ | ⟨d', w, q, rfl, r⟩
    · cases q
    · cases q
      exact .inr ⟨a, w, rfl, g, k G H M d w (Same.refl _) S r h⟩
  · exact h.elim
  · split at h
    · next ds i e1 _ =>
      obtain ⟨a, vs, rfl, h1, h2, h3⟩ := as_lst S r1 e1
      cases r2
      split at h
      · next d ea =>
        obtain ⟨w, ew, rw'⟩ := atI_rel h2 ea
        exact .inl (.inl ⟨a, vs, i, w, rfl, rfl, .inl (.inl h1), ew, k G H M d w (Same.refl _) S rw' h⟩)
      · exact h.elim
    · next ds i e1 _ =>
      obtain ⟨a, vs, rfl, h1, h2, h3⟩ := as_tup S r1 e1
      cases r2
      split at h
      · next d ea =>
        obtain ⟨w, ew, rw'⟩ := atI_rel h2 ea
        exact .inl (.inr (.inl ⟨a, vs, i, w, rfl, rfl, h1, ew, k G H M d w (Same.refl _) S rw' h⟩))
      · exact h.elim
    · next z i e1 _ =>
      obtain ⟨rfl, l1, o1⟩ := as_str r1 e1
      cases r2
      split at h
      · next c ea =>
        refine .inl (.inr (.inr ⟨z, i, c, rfl, rfl, l1, ea, k G H M (.str ⟨#[c]⟩) _ (Same.refl _) S ⟨rfl, sz1000 (by show 1 ≤ 100000; decide), ?_⟩ h⟩))
        obtain ⟨j, _, h2, _⟩ := atI_get ea
        have hm : c ∈ z.cps.toList := List.mem_of_getElem? h2
        have ho : ∀ y ∈ z.cps.toList, decide (y < 0x110000) = true := by
          unfold PyData.strOk at o1
          rw [← Array.all_toList] at o1
          exact List.all_eq_true.mp o1
        have := ho c hm
        simpa [PyData.strOk] using this
      · exact h.elim
    · next ns i e1 _ =>
      obtain ⟨a, rfl, h1⟩ := as_scr S r1 e1
      cases r2
      split at h
      · next c ea => exact .inl (.inl ⟨a, _, i, .int c, rfl, rfl, same_l S.same h1, atI_map ea, k G H M (.int c) _ (Same.refl _) S rfl h⟩)
      · exact h.elim
    · exact h.elim
theorem q_ix {X : Cx} {W : WX} {a b : Expr} {ta tb : TE} {qa qb : DTE} {pos : Pos} (hu : X.A.units + 1 < cLine) (ha : QE X W a ta qa) (hb : QE X W b tb qb) (hs : PlainIx b := by exact fun _ _ => rfl) : QE X W (.Subscript a b pos) (tOp (rIxA X.K) ta tb) (qOp dIx qa qb) :=
  ⟨pe_ix (IxR.or ix_seq (ix_dict hu)) ha.pe hb.pe hs, ref_op ref_ix ha.rf hb.rf⟩
end DL
namespace DL
open PySem L2
def flatD : D → Bool
  | .non => true
  | .bl _ => true
  | .int _ => true
  | .str _ => true
  | _ => false
theorem flatD_of {K : PySem.W.Frag} {G : Hp} {d : D} {v : V} (r : Rep K G d v) (h : flatD d = true) : flatV v = true ∧ ∀ e w, Rep K G e w → flatD e = true → eqV w v = deq e d := by
  cases d with
  | non => cases r; exact ⟨rfl, fun e w r h => by
      cases e with
      | non => cases r; rfl
      | bl b => cases r; rfl
      | int b => cases r; rfl
      | str b => obtain ⟨r, _⟩ := r; subst r; rfl
      | _ => cases h⟩
  | bl b => cases r; exact ⟨rfl, fun e w r h => by
      cases e with
      | non => cases r; rfl
      | bl b => cases r; rfl
      | int b => cases r; rfl
      | str b => obtain ⟨r, _⟩ := r; subst r; rfl
      | _ => cases h⟩
  | int b => cases r; exact ⟨rfl, fun e w r h => by
      cases e with
      | non => cases r; rfl
      | bl b => cases r; rfl
      | int b => cases r; rfl
      | str b => obtain ⟨r, _⟩ := r; subst r; rfl
      | _ => cases h⟩
  | str b => obtain ⟨r, _⟩ := r; subst r; exact ⟨rfl, fun e w r h => by
      cases e with
      | non => cases r; rfl
      | bl b => cases r; rfl
      | int b => cases r; rfl
      | str b => obtain ⟨r, _⟩ := r; subst r; rfl
      | _ => cases h⟩
  | _ => cases h
theorem inV_of {K : PySem.W.Frag} {G : Hp} {d : D} {v : V} (r : Rep K G d v) (h : flatD d = true) : ∀ {ds : List D} {vs : List V}, RepL K G ds vs → ds.all flatD = true → vs.all flatV = true ∧ inV v vs = ds.any fun e => deq e d
  | [], _, q, _ => by cases q; exact ⟨rfl, rfl⟩
  | e :: ds, _, ⟨w, vs, e1, h2, h3⟩, f => by
    subst e1
    have f' : flatD e = true ∧ ds.all flatD = true := by simpa using f
    obtain ⟨i1, i2⟩ := inV_of r h h3 f'.2
    obtain ⟨fv, _⟩ := flatD_of h2 f'.1
    have e2 := (flatD_of r h).2 e w h2 f'.1
    refine ⟨by simp [fv, i1], ?_⟩
    have e3 : inV v (w :: vs) = (eqV w v || inV v vs) := rfl
    rw [e3, i2, e2]; rfl
def rInDk (neg : Bool) : R2 := fun y x H Q => ∃ a o, x = .ref a ∧ DGet H a y o ∧ Q (.bl (xor neg o.isSome)) H
theorem op_ninDk {X : Cx} (hu : X.A.units + 1 < cLine) : OpR X (compareOp .NotIn) (rInDk true) := by
  intro pins s σ H y x u v Q I ry rx h
  obtain ⟨a, o, rfl, g, q⟩ := h
  cases rx
  exact d_notIn hu I g ry fun s3 I3 => ⟨.bl (!o.isSome), H, I3, rfl, by simpa using q⟩
def inS (c z : Str) : Bool := !(Builtin.Str.occurrences z c 0 z.length 1).isEmpty
def rInStr (neg : Bool) : R2 := fun x y H Q => ∃ i j, x = .str i ∧ y = .str j ∧ Q (.bl (xor neg (inS i j))) H
theorem op_ninStr {X : Cx} : OpR X (compareOp .NotIn) (rInStr true) := by
  intro pins s σ H y x u v Q I ry rx h
  obtain ⟨i, j, e1, e2, q⟩ := h
  exact op_notIn_str pins s σ H y x u v Q I ry rx ⟨i, j, e1, e2, by simpa [inS] using q⟩
def rInX (K : PySem.W.Frag) (neg : Bool) : R2 := fun x y H Q => rIn K neg x y H Q ∨ rInDk neg x y H Q ∨ rInStr neg x y H Q
def dIn (neg : Bool) : DOp := fun x y M Q => match dgetD M y x with
  | some r => Q (.bl (xor neg r.isSome)) M
  | none => match res M y with
    | .lst ds => flatD x = true ∧ ds.all flatD = true ∧ Q (.bl (xor neg (ds.any fun e => deq e x))) M
    | .tup ds => flatD x = true ∧ ds.all flatD = true ∧ Q (.bl (xor neg (ds.any fun e => deq e x))) M
    | .str z => match x with
      | .str c => Q (.bl (xor neg (inS c z))) M
      | _ => False
    | _ => False
theorem ref_in {K : PySem.W.Frag} {neg : Bool} : RefR2 K (rInX K neg) (dIn neg) := fun G H p M s x y v u Q Q' S r1 r2 h k => by
  have nb : ∀ b : Bool, (if neg = true then !b else b) = xor neg b := fun b => by cases neg <;> cases b <;> rfl
  unfold dIn at h
  split at h
  · next r e =>
    obtain ⟨a, o, rfl, g, q⟩ := dgetD_of S r2 r1 e
    refine .inr (.inl ⟨a, o, rfl, g, k G H M (.bl _) _ (Same.refl _) S rfl ?_⟩)
    rcases q with ⟨rfl, rfl⟩ | ⟨d, w, rfl, rfl, _⟩ <;> exact h
  · split at h
    · next ds e1 =>
      obtain ⟨f1, f2, h⟩ := h
      obtain ⟨a, vs, rfl, h1, h2, h3⟩ := as_lst S r2 e1
      obtain ⟨i1, i2⟩ := inV_of r1 f1 h2 f2
      refine .inl ⟨a, vs, rfl, .inl (.inl (.inl h1)), (flatD_of r1 f1).1, i1, k G H M (.bl _) _ (Same.refl _) S rfl ?_⟩
      rw [nb, i2]; exact h
    · next ds e1 =>
      obtain ⟨f1, f2, h⟩ := h
      obtain ⟨a, vs, rfl, h1, h2, h3⟩ := as_tup S r2 e1
      obtain ⟨i1, i2⟩ := inV_of r1 f1 h2 f2
      refine .inl ⟨a, vs, rfl, .inr h1, (flatD_of r1 f1).1, i1, k G H M (.bl _) _ (Same.refl _) S rfl ?_⟩
      rw [nb, i2]; exact h
    · next z e1 =>
      obtain ⟨rfl, l1, o1⟩ := as_str r2 e1
      split at h
      · next c _ =>
        obtain ⟨rfl, _⟩ := r1
        exact .inr (.inr ⟨c, z, rfl, rfl, k G H M (.bl _) _ (Same.refl _) S rfl h⟩)
      · exact h.elim
    · exact h.elim
theorem o_notin {X : Cx} (hu : X.A.units + 1 < cLine) : QOp X (compareOp .NotIn) (rInX X.K true) (dIn true) := ⟨OpR.or op_notIn_seq (OpR.or (op_ninDk hu) op_ninStr), ref_in⟩
abbrev DTO := DWt → Rho → Mst → (Option Int → Mst → Prop) → Prop
def RefO (K : PySem.W.Frag) (W : WX) (t : TO) (q : DTO) : Prop := ∀ DW G H p M s (Q : Option Int → Mst → Prop) (Q' : Option Int → Hp → Prop), WLink K G DW W → Sim K G H p M s → q DW p M Q →
  (∀ G' H' M' b, Same G G' → Sim K G' H' p M' s → Q b M' → Q' b H') → t s H Q'
structure QO (X : Cx) (W : WX) (e : Option Expr) (t : TO) (q : DTO) : Prop where
  pe : PO X e t
  rf : RefO X.K W t q
@[simp] def qNoPart : DTO := fun _ _ M Q => Q none M
@[simp] def qPart (q : DTE) : DTO := fun DW p M Q => q DW p M fun d M1 => match d with | .int i => Q (some i) M1 | _ => False
def cutX {α : Type} (xs : List α) (lo hi : Option Int) : List α := (xs.drop (HT.sIx xs.length 0 lo)).take (HT.sIx xs.length xs.length hi - HT.sIx xs.length 0 lo)
def dSl (m : Bool) (x : D) (lo hi : Option Int) (M : Mst) (Q : DK) : Prop := match x with
  | .tup ds => Q (.tup (cutX ds lo hi)) M
  | .xtp ds => Q (.tup (cutX ds lo hi)) M ∧ Q (.xtp (cutX ds lo hi)) M
  | .ktp ds => Q (.tup (cutX ds lo hi)) M ∧ Q (.ktp (cutX ds lo hi)) M
  | _ => match res M x with
    | .lst ds => newL m (cutX ds lo hi) M Q
    | .str z => Q (.str (cutS z lo hi)) M
    | _ => False
def qSl (m : Bool) (qe : DTE) (ql qh : DTO) : DTE := fun DW p M Q => qe DW p M fun x M1 => ql DW p M1 fun l M2 => qh DW p M2 fun u M3 => dSl m x l u M3 Q
theorem strOk_cut {z : Str} {lo hi : Option Int} (h : PyData.strOk z = true) : PyData.strOk (cutS z lo hi) = true := by
  have ho : ∀ y ∈ z.cps.toList, decide (y < 0x110000) = true := by
    unfold PyData.strOk at h
    rw [← Array.all_toList] at h
    exact List.all_eq_true.mp h
  unfold PyData.strOk cutS
  rw [← Array.all_toList]
  refine List.all_eq_true.mpr fun y hy => ho y ?_
  exact List.mem_of_mem_drop (List.mem_of_mem_take (by simpa using hy))
section
variable {X : Cx} {W : WX} {e : Expr} {te : TE} {qe : DTE} {lo hi : Option Expr} {tl th : TO} {ql qh : DTO} {pos p2 : Pos}
theorem qo_none : QO X W none tNoPart qNoPart := ⟨po_none, fun DW G H p M s Q Q' hw S q k => k G H M none (Same.refl _) S q⟩
theorem qo_some (h : QE X W e te qe) : QO X W (some e) (tPart te) (qPart qe) := ⟨po_some h.pe, fun DW G H p M s Q Q' hw S q k => h.rf DW G H p M s _ _ hw S q fun G1 H1 M1 d v e1 S1 r1 h1 => by
  cases d with
  | int i => cases r1; exact ⟨i, rfl, k G1 H1 M1 _ e1 S1 h1⟩
  | _ => exact h1.elim⟩
def rSlX (K : PySem.W.Frag) : V → Option Int → Option Int → Hp → VK → Prop := fun x lo hi H Q => rSlL K x lo hi H Q ∨ rSlA K x lo hi H Q ∨ rSlS x lo hi H Q
theorem q_slice (m : Bool) (he : QE X W e te qe) (hl : QO X W lo tl ql) (hu : QO X W hi th qh) : QE X W (.Subscript e (.Slice lo hi none p2) pos) (tSl (rSlX X.K) te tl th) (qSl m qe ql qh) :=
  ⟨pe_slice (SlR.or sl_list (SlR.or sl_tupA sl_str)) he.pe hl.pe hu.pe, fun DW G H p M s Q Q' hw S h k => he.rf DW G H p M s _ _ hw S h fun G1 H1 M1 d v e1 S1 r1 h1 =>
    hl.rf DW G1 H1 p M1 s _ _ (hw.mono e1) S1 h1 fun G2 H2 M2 l e2 S2 h2 => hu.rf DW G2 H2 p M2 s _ _ (hw.mono (e1.trans e2)) S2 h2 fun G3 H3 M3 u e3 S3 h3 => by
      have r3 := Rep.mono (e2.trans e3) _ _ r1
      have k3 : ∀ G' H' M' d w, Same G3 G' → Sim X.K G' H' p M' s → Rep X.K G' d w → Q d M' → Q' w H' := fun G' H' M' d w e4 => k G' H' M' d w (((e1.trans e2).trans e3).trans e4)
      unfold dSl at h3
      split at h3
      · next ds =>
        obtain ⟨a, vs, rfl, g1, g2, g3⟩ := r3
        have g1' := S3.same _ _ g1
        have c1 : RepL X.K G3 (cutX ds l u) (cutV vs l u) := by
          unfold cutX cutV
          rw [g2.length]
          exact RepL.take _ (RepL.drop _ g2)
        have c2 := Nat.le_trans (cutV_length vs l u) g3
        refine .inr (.inl ⟨a, vs, rfl, .inl (.inl g1'), fun hwh => ?_, fun hnw q hq => newT_ok S3 hq c1 c2 h3 k3⟩)
        refine k3 G3 H3 M3 (.tup (cutX ds l u)) _ (Same.refl _) S3 ⟨a, vs, rfl, g1, ?_, g3⟩ h3
        have e5 : cutV vs l u = vs := by
          unfold cutV
          rw [hwh.1, hwh.2]
          simp
        rw [e5] at c1; exact c1
      · next ds =>
        obtain ⟨a, o, vs, rfl, g1, g0, g2, g3⟩ := r3
        have g1' := S3.same _ _ g1
        have c1 : RepL X.K G3 (cutX ds l u) (cutV vs l u) := by
          unfold cutX cutV
          rw [g2.length]
          exact RepL.take _ (RepL.drop _ g2)
        have c2 := Nat.le_trans (cutV_length vs l u) g3
        refine .inr (.inl ⟨a, vs, rfl, .inl (.inr ⟨o, g1'⟩), fun hwh => ?_, fun hnw q hq => newT_ok S3 hq c1 c2 h3.1 k3⟩)
        refine k3 G3 H3 M3 (.xtp (cutX ds l u)) _ (Same.refl _) S3 ⟨a, o, vs, rfl, g1, g0, ?_, g3⟩ h3.2
        have e5 : cutV vs l u = vs := by
          unfold cutV
          rw [hwh.1, hwh.2]
          simp
        rw [e5] at c1; exact c1
      · next ds =>
        obtain ⟨a, vs, rfl, g1, g2, g3⟩ := r3
        have c1 : RepL X.K G3 (cutX ds l u) (cutV vs l u) := by
          unfold cutX cutV
          rw [g2.length]
          exact RepL.take _ (RepL.drop _ g2)
        have c2 := Nat.le_trans (cutV_length vs l u) g3
        refine .inr (.inl ⟨a, vs, rfl, same_t S3.same g1, fun hwh => ?_, fun hnw q hq => newT_ok S3 hq c1 c2 h3.1 k3⟩)
        refine k3 G3 H3 M3 (.ktp (cutX ds l u)) _ (Same.refl _) S3 ⟨a, vs, rfl, g1, ?_, g3⟩ h3.2
        have e5 : cutV vs l u = vs := by
          unfold cutV
          rw [hwh.1, hwh.2]
          simp
        rw [e5] at c1; exact c1
      · split at h3
        · next ds e4 =>
          obtain ⟨a, vs, rfl, g1, g2, g3⟩ := as_lst S3 r3 e4
          have c1 : RepL X.K G3 (cutX ds l u) (cutV vs l u) := by
            unfold cutX cutV
            rw [g2.length]
            exact RepL.take _ (RepL.drop _ g2)
          exact .inl ⟨a, vs, rfl, .inl (.inl g1), fun q hq => newL_ok S3 hq c1 (Nat.le_trans (cutV_length vs l u) g3) h3 k3⟩
        · next z e4 =>
          obtain ⟨rfl, l1, o1⟩ := as_str r3 e4
          exact .inr (.inr ⟨z, rfl, l1, k3 G3 H3 M3 (.str _) _ (Same.refl _) S3 ⟨rfl, Nat.le_trans (cutS_length z l u) l1, strOk_cut o1⟩ h3⟩)
        · exact h3.elim⟩
/-- xs[::-1] -/
def dRev (m : Bool) : DUn := fun x M Q => match res M x with
  | .lst ds => newL m ds.reverse M Q
  | _ => False
theorem q_rev (m : Bool) {k : Nat} {p1 p2 p3 pos : Pos} (he : QE X W e te qe) : QE X W (.Subscript e (.Slice none none (some (.UnaryOp .USub (.Constant (.int 1) k p1) p2)) p3) pos) (tRevL X.K te) (qUn (dRev m) qe) :=
  ⟨pe_revL he.pe, fun DW G H p M s Q Q' hw S h k => he.rf DW G H p M s _ _ hw S h fun G1 H1 M1 d v e1 S1 r1 h1 => by
    unfold dRev at h1
    split at h1
    · next ds e4 =>
      obtain ⟨a, vs, rfl, g1, g2, g3⟩ := as_lst S1 r1 e4
      exact ⟨a, vs, rfl, .inl (.inl g1), fun q hq => newL_ok S1 hq (RepL.reverse g2) (by rw [List.length_reverse]; exact g3) h1 fun G' H' M' d w e4 => k G' H' M' d w (e1.trans e4)⟩
    · exact h1.elim⟩
end
def dLen : DCa := fun ds M Q => match ds with
  | [x] => match res M x with
    | .lst es => Q (.int es.length) M
    | .tup es => Q (.int es.length) M
    | .str z => Q (.int z.length) M
    | .scr ns => Q (.int ns.length) M
    | .dct ks es => Q (.int es.length) M
    | _ => False
  | _ => False
theorem call_lenDR {X : Cx} : CallR X (.builtin "len") (fun xs H Q => ∃ a kvs, xs = [V.ref a] ∧ Rd H a (.dK kvs) ∧ Q (.int kvs.length) H) := by
  intro pins s σ H xs us Q I r h
  obtain ⟨a, kvs, rfl, ha, q⟩ := h
  obtain ⟨u, rfl, ru⟩ := vals1 r
  cases ru
  exact d_len I ha fun t s' I' => ⟨.int kvs.length, H, I', ⟨_, rfl⟩, q⟩
def rLenX (K : PySem.W.Frag) : List V → Hp → VK → Prop := fun xs H Q => (∃ x n, xs = [x] ∧ LenV K x H n ∧ Q (.int n) H) ∨ ∃ a kvs, xs = [V.ref a] ∧ Rd H a (.dK kvs) ∧ Q (.int kvs.length) H
theorem repL1 {K : PySem.W.Frag} {G : Hp} {x : D} {vs : List V} (r : RepL K G [x] vs) : ∃ v, vs = [v] ∧ Rep K G x v := by
  obtain ⟨v, r', e, h1, h2⟩ := r
  cases h2
  exact ⟨v, e, h1⟩
theorem repL2 {K : PySem.W.Frag} {G : Hp} {x y : D} {vs : List V} (r : RepL K G [x, y] vs) : ∃ v u, vs = [v, u] ∧ Rep K G x v ∧ Rep K G y u := by
  obtain ⟨v, r', e, h1, h2⟩ := r
  obtain ⟨u, e2, h3⟩ := repL1 h2
  subst e2
  exact ⟨v, u, e, h1, h3⟩
theorem c_len {X : Cx} : QCa X (.builtin "len") (rLenX X.K) dLen := ⟨CallR.or call_len call_lenDR, fun G H p M s ds vs Q Q' S r h k => by
  unfold dLen at h
  split at h
  · next x =>
    obtain ⟨v, rfl, r1⟩ := repL1 r
    have fin : ∀ (n : Nat), Q (.int n) M → Q' (.int n) H := fun n q => k G H M (.int n) _ (Same.refl _) S rfl q
    split at h
    · next es e1 =>
      obtain ⟨a, us, rfl, g1, g2, g3⟩ := as_lst S r1 e1
      exact .inl ⟨_, es.length, rfl, .inl ⟨us, .inl (.inl g1), g2.length.symm⟩, fin _ h⟩
    · next es e1 =>
      obtain ⟨a, us, rfl, g1, g2, g3⟩ := as_tup S r1 e1
      exact .inl ⟨_, es.length, rfl, .inr ⟨us, g1, g2.length.symm⟩, fin _ h⟩
    · next z e1 =>
      obtain ⟨rfl, l1, o1⟩ := as_str r1 e1
      exact .inl ⟨_, z.length, rfl, ⟨l1, rfl⟩, fin _ h⟩
    · next ns e1 =>
      cases x with
      | scr ms =>
        cases e1
        obtain ⟨a, rfl, g1, g2⟩ := r1
        exact .inl ⟨_, ns.length, rfl, .inl ⟨_, same_l S.same g1, by simp⟩, fin _ h⟩
      | ref a =>
        simp only [res] at e1
        split at e1 <;> cases e1
      | _ => cases e1
    · next ks es e1 =>
      obtain ⟨a, us, rfl, g1, g2, g3, g4, _⟩ := as_dct S r1 e1
      refine .inr ⟨a, us, rfl, g1, ?_⟩
      have e2 : us.length = es.length := by have := g3.length; simpa using this
      rw [e2]
      exact fin _ h
    · exact h.elim
  · exact h.elim⟩
def dAbs : DCa := fun ds M Q => match ds with
  | [.int i] => Q (.int (if i < 0 then -i else i)) M
  | _ => False
theorem c_abs {X : Cx} : QCa X (.builtin "abs") (fun xs H Q => ∃ i, xs = [.int i] ∧ Q (.int (if i < 0 then -i else i)) H) dAbs := ⟨call_abs, fun G H p M s ds vs Q Q' S r h k => by
  unfold dAbs at h
  split at h
  · next i =>
    obtain ⟨v, rfl, r1⟩ := repL1 r
    cases r1
    exact ⟨i, rfl, k G H M (.int _) _ (Same.refl _) S rfl h⟩
  · exact h.elim⟩
def dMax2 : DCa := fun ds M Q => match ds with
  | [.int i, .int j] => Q (.int (if j > i then j else i)) M
  | _ => False
def dMin2 : DCa := fun ds M Q => match ds with
  | [.int i, .int j] => Q (.int (if j < i then j else i)) M
  | _ => False
theorem c_max2 {X : Cx} (hc : X.calm = true) : QCa X (.builtin "max") (fun xs H Q => ∃ i j, xs = [.int i, .int j] ∧ Q (.int (if j > i then j else i)) H) dMax2 := ⟨call_max2 hc, fun G H p M s ds vs Q Q' S r h k => by
  unfold dMax2 at h
  split at h
  · next i j =>
    obtain ⟨v, u, rfl, r1, r2⟩ := repL2 r
    cases r1
    cases r2
    exact ⟨i, j, rfl, k G H M (.int _) _ (Same.refl _) S rfl h⟩
  · exact h.elim⟩
theorem c_min2 {X : Cx} (hc : X.calm = true) : QCa X (.builtin "min") (fun xs H Q => ∃ i j, xs = [.int i, .int j] ∧ Q (.int (if j < i then j else i)) H) dMin2 := ⟨call_min2 hc, fun G H p M s ds vs Q Q' S r h k => by
  unfold dMin2 at h
  split at h
  · next i j =>
    obtain ⟨v, u, rfl, r1, r2⟩ := repL2 r
    cases r1
    cases r2
    exact ⟨i, j, rfl, k G H M (.int _) _ (Same.refl _) S rfl h⟩
  · exact h.elim⟩
def dTuple : DCa := fun ds M Q => match ds with
  | [.tup es] => Q (.tup es) M
  | [x] => match res M x with
    | .lst es => Q (.tup es) M
    | _ => False
  | _ => False
theorem c_tuple {X : Cx} : QCa X (.type "tuple") (fun xs H Q => ∃ p ys, xs = [.ref p] ∧ ((SqL X.K H p ys ∧ ∀ l, H l = none → Q (.ref l) (upd H l (.tup ys))) ∨ (SqT X.K H p ys ∧ Q (.ref p) H))) dTuple := ⟨call_tuple_of, fun G H p M s ds vs Q Q' S r h k => by
  unfold dTuple at h
  split at h
  · next es =>
    obtain ⟨v, rfl, r1⟩ := repL1 r
    obtain ⟨a, us, rfl, g1, g2, g3⟩ := r1
    exact ⟨a, us, rfl, .inr ⟨.inl (.inl (S.same _ _ g1)), k G H M (.tup es) _ (Same.refl _) S ⟨a, us, rfl, g1, g2, g3⟩ h⟩⟩
  · next x _ =>
    obtain ⟨v, rfl, r1⟩ := repL1 r
    split at h
    · next es e1 =>
      obtain ⟨a, us, rfl, g1, g2, g3⟩ := as_lst S r1 e1
      exact ⟨a, us, rfl, .inl ⟨.inl (.inl g1), fun q hq => newT_ok S hq g2 g3 h k⟩⟩
    · exact h.elim
  · exact h.elim⟩
def blsD : List D → Option (List Bool)
  | [] => some []
  | .bl b :: ds => (blsD ds).map (b :: ·)
  | _ => none
theorem blsD_of {K : PySem.W.Frag} {G : Hp} : ∀ {ds : List D} {vs : List V} {bs : List Bool}, RepL K G ds vs → blsD ds = some bs → vs = bs.map V.bl
  | [], _, _, h, e => by cases h; cases e; rfl
  | d :: ds, _, bs, ⟨v, r, h1, h2, h3⟩, e => by
    cases d with
    | bl b =>
      simp only [blsD] at e
      cases eb : blsD ds with
      | none => rw [eb] at e; cases e
      | some cs =>
        rw [eb] at e; cases e
        cases h2
        rw [h1, blsD_of h3 eb]; rfl
    | _ => simp [blsD] at e
@[simp] theorem blsD_map {α : Type} (f : α → Bool) : ∀ l : List α, blsD (l.map fun x => .bl (f x)) = some (l.map f)
  | [] => rfl
  | x :: l => by simp [blsD, blsD_map f l]
def dAll : DCa := fun ds M Q => match ds with
  | [x] => match res M x with
    | .lst es => match blsD es with | some bs => Q (.bl (bs.all id)) M | none => False
    | _ => False
  | _ => False
def dAny : DCa := fun ds M Q => match ds with
  | [x] => match res M x with
    | .lst es => match blsD es with | some bs => Q (.bl (bs.any id)) M | none => False
    | _ => False
  | _ => False
theorem c_all {X : Cx} (hc : X.calm = true) : QCa X (.builtin "all") (rAll X.K) dAll := ⟨cr_all hc, fun G H p M s ds vs Q Q' S r h k => by
  unfold dAll at h
  split at h
  · next x =>
    obtain ⟨v, rfl, r1⟩ := repL1 r
    split at h
    · next es e1 =>
      obtain ⟨a, us, rfl, g1, g2, g3⟩ := as_lst S r1 e1
      split at h
      · next bs eb =>
        refine ⟨a, bs, rfl, .inl (.inl ?_), k G H M (.bl _) _ (Same.refl _) S rfl h⟩
        rw [← blsD_of g2 eb]; exact g1
      · exact h.elim
    · exact h.elim
  · exact h.elim⟩
theorem c_any {X : Cx} (hc : X.calm = true) : QCa X (.builtin "any") (rAny X.K) dAny := ⟨cr_any hc, fun G H p M s ds vs Q Q' S r h k => by
  unfold dAny at h
  split at h
  · next x =>
    obtain ⟨v, rfl, r1⟩ := repL1 r
    split at h
    · next es e1 =>
      obtain ⟨a, us, rfl, g1, g2, g3⟩ := as_lst S r1 e1
      split at h
      · next bs eb =>
        refine ⟨a, bs, rfl, .inl (.inl ?_), k G H M (.bl _) _ (Same.refl _) S rfl h⟩
        rw [← blsD_of g2 eb]; exact g1
      · exact h.elim
    · exact h.elim
  · exact h.elim⟩
def tyD : D → String
  | .non => "NoneType"
  | .bl _ => "bool"
  | .int _ => "int"
  | .str _ => "str"
  | .tup _ => "tuple"
  | .ktp _ => "tuple"
  | .xtp _ => "tuple"
  | .lst _ => "list"
  | .dct _ _ => "dict"
  | .scr _ => "list"
  | _ => ""
def hasTy : D → Bool
  | .ins _ _ _ => false
  | .exc _ _ _ _ => false
  | .fnv _ _ _ _ _ => false
  | .ref _ => false
  | .ty _ => false
  | .scr _ => false
  | _ => true
/-- is a thing of the type t one of T -/
def isiB (t T : String) : Option Bool := kitB t T
def isiL (t : String) : List D → Option Bool
  | [] => some false
  | .ty T :: ds => match isiB t T, isiL t ds with
    | some a, some b => some (a || b)
    | _, _ => none
  | _ => none
def dIsi : DCa := fun ds M Q => match ds with
  | [x, .ty T] => hasTy (res M x) = true ∧ match isiB (tyD (res M x)) T with | some b => Q (.bl b) M | none => False
  | [x, .tup Ts] => hasTy (res M x) = true ∧ match isiL (tyD (res M x)) Ts with | some b => Q (.bl b) M | none => False
  | _ => False
theorem tyX_of {K : PySem.W.Frag} {G H : Hp} {p : Rho} {M : Mst} {s : L2.St} {x : D} {v : V} (S : Sim K G H p M s) (r : Rep K G x v) (h : hasTy (res M x) = true) : TyX K H v (.type (tyD (res M x))) := by
  cases e : res M x with
  | non =>
    have : x = .non := by
      cases x with
      | ref a => simp only [res] at e; split at e <;> cases e
      | _ => cases e <;> rfl
    subst this; cases r; exact .base .non
  | bl b =>
    have : x = .bl b := by
      cases x with
      | ref a => simp only [res] at e; split at e <;> cases e
      | _ => cases e <;> rfl
    subst this; cases r; exact .base (.bl _)
  | int b => cases as_int r e; exact .base (.int _)
  | str b => obtain ⟨rfl, _⟩ := as_str r e; exact .base (.str _)
  | ty b => rw [e] at h; cases h
  | ref b => rw [e] at h; cases h
  | scr b => rw [e] at h; cases h
  | ins a b c => rw [e] at h; cases h
  | exc a b c z => rw [e] at h; cases h
  | fnv a b c _ _ => rw [e] at h; cases h
  | ktp b =>
    cases x with
    | ref a => simp only [res] at e; split at e <;> cases e
    | _ => cases e
  | xtp b =>
    cases x with
    | ref a => simp only [res] at e; split at e <;> cases e
    | _ => cases e
  | tup ds =>
    cases x with
    | ref a => simp only [res] at e; split at e <;> cases e
    | tup es =>
      cases e
      obtain ⟨a, us, rfl, g1, g2, g3⟩ := r
      exact .base (.tup (S.same _ _ g1))
    | ktp es =>
      cases e
      obtain ⟨a, us, rfl, g1, g2, g3⟩ := r
      rcases g1 with (g1 | ⟨o, g1⟩) | ⟨o, its, n, hk, hc, _⟩
      · exact .base (.tup (S.same _ _ g1))
      · exact .fTuple (S.same _ _ g1)
      · exact .kTuple hk hc
    | xtp es =>
      cases e
      obtain ⟨a, o, us, rfl, g1, g2, g3⟩ := r
      exact .fTuple (S.same _ _ g1)
    | _ => cases e
  | lst ds =>
    obtain ⟨a, us, rfl, g1, g2, g3⟩ := as_lst S r e
    exact .base (.lst g1)
  | dct ks ds =>
    obtain ⟨a, us, rfl, g1, g2, g3, g4, _⟩ := as_dct S r e
    rcases g1 with g1 | ⟨o, g1⟩
    · exact .base (.dK g1)
    · exact .fDict g1
theorem isiL_of {K : PySem.W.Frag} {G : Hp} {t : String} : ∀ {ds : List D} {vs : List V} {b : Bool}, RepL K G ds vs → isiL t ds = some b → ∃ us, Paired ClsV vs us ∧ PySem.W.kitAny K (.type t) us = some b
  | [], _, b, h, e => by cases h; cases e; exact ⟨[], .nil, kitAny_nil⟩
  | d :: ds, _, b, ⟨v, r, h1, h2, h3⟩, e => by
    cases d with
    | ty T =>
      simp only [isiL] at e
      split at e
      · next a c e1 e2 =>
        cases e
        cases h2
        subst h1
        obtain ⟨us, q1, q2⟩ := isiL_of h3 e2
        refine ⟨.type T :: us, .cons (.ty T) q1, kitAny_cons (kit_ty e1) (fun ha => ?_) fun ha => ?_⟩
        · rw [q2, ha]; rfl
        · rw [ha]; rfl
      · cases e
    | _ => simp [isiL] at e
def rIsiX (K : PySem.W.Frag) : List V → Hp → VK → Prop := fun xs H Q => rIsi K xs H Q ∨ rIsiT K xs H Q
theorem c_isi {X : Cx} : QCa X (.builtin "isinstance") (rIsiX X.K) dIsi := ⟨CallR.or call_isi call_isiT, fun G H p M s ds vs Q Q' S r h k => by
  unfold dIsi at h
  split at h
  · next x T =>
    obtain ⟨v, u, rfl, r1, r2⟩ := repL2 r
    cases r2
    obtain ⟨ht, h⟩ := h
    split at h
    · next b e => exact .inl ⟨_, _, _, _, b, rfl, .ty T, tyX_of S r1 ht, kit_ty e, k G H M (.bl b) _ (Same.refl _) S rfl h⟩
    · exact h.elim
  · next x Ts =>
    obtain ⟨v, u, rfl, r1, r2⟩ := repL2 r
    obtain ⟨a, us, rfl, g1, g2, g3⟩ := r2
    obtain ⟨ht, h⟩ := h
    split at h
    · next b e =>
      obtain ⟨ws, q1, q2⟩ := isiL_of g2 e
      exact .inr ⟨_, a, us, _, ws, b, rfl, S.same _ _ g1, q1, tyX_of S r1 ht, q2, k G H M (.bl b) _ (Same.refl _) S rfl h⟩
    · exact h.elim
  · exact h.elim⟩
end DL
namespace DL
open PySem L2
@[simp] def qNext : DTS := fun _ DE p M => DE.nx p M
@[simp] def qSeq (q1 q2 : DTS) : DTS := fun DW DE p M => q1 DW { DE with nx := q2 DW DE } p M
@[simp] def qDrop (q : DTE) : DTS := fun DW DE p M => q DW p M fun _ M1 => DE.nx p M1
@[simp] def qRet (q : DTE) : DTS := fun DW DE p M => q DW p M fun d M1 => DE.rt d M1
@[simp] def qRetN : DTS := fun _ DE p M => DE.rt .non M
@[simp] def qIfS (c : DTT) (a b : DTS) : DTS := fun DW DE p M => c DW p M fun k M1 => if k = true then a DW DE p M1 else b DW DE p M1
@[simp] def qBreak : DTS := fun _ DE p M => DE.bk p M
@[simp] def qCont : DTS := fun _ DE p M => DE.ct p M
section
variable {X : Cx} {W : WX} {st : Stmt} {rest : List Stmt} {t u : TS} {q r : DTS} {e : Expr} {te : TE} {qe : DTE} {pos : Pos}
theorem qss_nil : QSs X W [] tNext qNext := ⟨pss_nil, fun DW G H p M s DE E hw S h k => k.nx G H p M s (Same.refl _) S h⟩
theorem qss_cons (h1 : QS X W st t q) (h2 : QSs X W rest u r) : QSs X W (st :: rest) (tSeq t u) (qSeq q r) :=
  ⟨pss_cons h1.pe h2.pe, fun DW G H p M s DE E hw S h k => h1.rf DW G H p M s _ _ hw S h
    ⟨fun G' H' p' M' s' e1 S' h' => h2.rf DW G' H' p' M' s' DE E (hw.mono e1) S' h' (k.mono e1), k.rt, k.bk, k.ct⟩⟩
theorem qss_one (h1 : QS X W st t q) : QSs X W [st] t q := ⟨pss_one h1.pe, h1.rf⟩
theorem qs_expr (he : QE X W e te qe) (hs : swapsWith e none pos.line X.env = pure false := by rfl) : QS X W (.Expr e pos) (tDrop te) (qDrop qe) :=
  ⟨ps_expr he.pe hs, fun DW G H p M s DE E hw S h k => he.rf DW G H p M s _ _ hw S h fun G1 H1 M1 d v e1 S1 r1 h1 => k.nx G1 H1 p M1 s e1 S1 h1⟩
theorem qs_ret (he : QE X W e te qe) : QS X W (.Return (some e) pos) (tRet te) (qRet qe) :=
  ⟨ps_ret he.pe, fun DW G H p M s DE E hw S h k => he.rf DW G H p M s _ _ hw S h fun G1 H1 M1 d v e1 S1 r1 h1 => k.rt G1 H1 p M1 s d v e1 S1 r1 h1⟩
theorem qs_if {c : Expr} {a b : List Stmt} {tc : TT} {qc : DTT} (hc : QT X W c tc qc) (ha : QSs X W a t q) (hb : QSs X W b u r) : QS X W (.If c a b pos) (tIfS tc t u) (qIfS qc q r) :=
  ⟨ps_if hc.pe ha.pe hb.pe, fun DW G H p M s DE E hw S h k => hc.rf DW G H p M s _ _ hw S h fun G1 H1 M1 c e1 S1 h1 => by
    cases c with
    | true =>
      rw [if_pos rfl] at h1 ⊢
      exact ha.rf DW G1 H1 p M1 s DE E (hw.mono e1) S1 h1 (k.mono e1)
    | false =>
      rw [if_neg Bool.false_ne_true] at h1 ⊢
      exact hb.rf DW G1 H1 p M1 s DE E (hw.mono e1) S1 h1 (k.mono e1)⟩
end
def Only (ix : List Nat) (s s' : L2.St) : Prop := s'.length = s.length ∧ ∀ j, j ∉ ix → s'[j]? = s[j]?
theorem Only.refl (ix : List Nat) (s : L2.St) : Only ix s s := ⟨rfl, fun _ _ => rfl⟩
theorem Only.trans {ix : List Nat} {s s1 s2 : L2.St} (a : Only ix s s1) (b : Only ix s1 s2) : Only ix s s2 := ⟨b.1.trans a.1, fun j h => (b.2 j h).trans (a.2 j h)⟩
theorem Only.mono {ix iy : List Nat} {s s1 : L2.St} (a : Only ix s s1) (h : ∀ j ∈ ix, j ∈ iy) : Only iy s s1 := ⟨a.1, fun j hj => a.2 j fun z => hj (h j z)⟩
theorem Only.set {ix : List Nat} {s : L2.St} {i : Nat} {v : Option V} (h : i ∈ ix) : Only ix s (s.set i v) := ⟨by simp, fun j hj => List.getElem?_set_ne (fun z => hj (by rw [← z]; exact h))⟩
theorem wipe_get {s : L2.St} {j : Nat} : ∀ {vs : List Nat}, j ∉ vs → (wipe s vs)[j]? = s[j]?
  | [], _ => rfl
  | v :: vs, h => by
    simp only [List.mem_cons, not_or] at h
    unfold wipe
    rw [List.getElem?_set_ne (Ne.symm h.1)]
    exact wipe_get h.2
theorem wipe_in {s : L2.St} {j : Nat} : ∀ {vs : List Nat}, j ∈ vs → j < s.length → (wipe s vs)[j]? = some none
  | [], h, _ => by cases h
  | v :: vs, h, hl => by
    unfold wipe
    by_cases e : v = j
    · subst e
      rw [List.getElem?_set_self (by rw [wipe_length]; exact hl)]
    · rw [List.getElem?_set_ne e]
      exact wipe_in (by rcases List.mem_cons.mp h with q | q; exact absurd q.symm e; exact q) hl
theorem Only.wipe {ix : List Nat} {s s' : L2.St} (h : Only ix s s') : L2.wipe s' ix = L2.wipe s ix := by
  apply List.ext_getElem?
  intro j
  by_cases hj : j ∈ ix
  · by_cases hl : j < s.length
    · rw [wipe_in hj hl, wipe_in hj (by rw [h.1]; exact hl)]
    · rw [List.getElem?_eq_none (by rw [wipe_length, h.1]; omega), List.getElem?_eq_none (by rw [wipe_length]; omega)]
  · rw [wipe_get hj, wipe_get hj]; exact h.2 j hj
def RefGi (K : PySem.W.Frag) (W : WX) (ix : List Nat) (t : TG) (q : DTG) : Prop := ∀ DW G H p M s d v (Q : Rho → Mst → Prop) (Q' : L2.St → Hp → Prop), WLink K G DW W → Sim K G H p M s → Rep K G d v → q d DW p M Q →
  (∀ G' H' p' M' s', Same G G' → Sim K G' H' p' M' s' → Only ix s s' → Q p' M' → Q' s' H') → t v s H Q'
def RefGis (K : PySem.W.Frag) (W : WX) (ix : List Nat) (t : TGs) (q : DTGs) : Prop := ∀ DW G H p M s ds vs (Q : Rho → Mst → Prop) (Q' : L2.St → Hp → Prop), WLink K G DW W → Sim K G H p M s → RepL K G ds vs → q ds DW p M Q →
  (∀ G' H' p' M' s', Same G G' → Sim K G' H' p' M' s' → Only ix s s' → Q p' M' → Q' s' H') → t vs s H Q'
structure QGi (X : Cx) (W : WX) (ix : List Nat) (tg : Expr) (t : TG) (q : DTG) : Prop where
  pe : PG X tg t
  rf : RefGi X.K W ix t q
structure QGis (X : Cx) (W : WX) (ix : List Nat) (tg : List Expr) (t : TGs) (q : DTGs) : Prop where
  pe : PGs X tg t
  rf : RefGis X.K W ix t q
section
variable {K : PySem.W.Frag} {G H : Hp} {p : Rho} {M : Mst} {s : L2.St} {d : D} {v : V}
theorem Sim.set (S : Sim K G H p M s) (i : Nat) (r : Rep K G d v) : Sim K G H (p.set i (some d)) M (s.set i (some v)) := by
  refine ⟨S.same, fun j e h => ?_, by simp [S.len], S.mem⟩
  by_cases hj : i = j
  · subst hj
    by_cases hl : i < p.length
    · rw [List.getElem?_set_self hl] at h
      cases h
      exact ⟨v, by rw [List.getElem?_set_self (by rw [S.len]; exact hl)], r⟩
    · rw [List.getElem?_eq_none (by simpa using hl)] at h
      cases h
  · rw [List.getElem?_set_ne hj] at h ⊢
    exact S.env j e h
/-- a name is forgotten -/
theorem Sim.forget (S : Sim K G H p M s) (i : Nat) (v : Option V) : Sim K G H (p.set i none) M (s.set i v) := by
  refine ⟨S.same, fun j e h => ?_, by simp [S.len], S.mem⟩
  by_cases hj : i = j
  · subst hj
    by_cases hl : i < p.length
    · rw [List.getElem?_set_self hl] at h
      cases h
    · rw [List.getElem?_eq_none (by simpa using hl)] at h
      cases h
  · rw [List.getElem?_set_ne hj] at h ⊢
    exact S.env j e h
end
def wipeD (p : Rho) : List Nat → Rho
  | [] => p
  | v :: vs => (wipeD p vs).set v none
theorem Sim.wipe {K : PySem.W.Frag} {G H : Hp} {p : Rho} {M : Mst} {s : L2.St} (S : Sim K G H p M s) : ∀ vs : List Nat, Sim K G H (wipeD p vs) M (L2.wipe s vs)
  | [] => S
  | v :: vs => (Sim.wipe S vs).forget v none
@[simp] def gNameD (i : Nat) : DTG := fun d _ p M Q => Q (p.set i (some d)) M
@[simp] def gNilD : DTGs := fun ds _ p M Q => ds = [] ∧ Q p M
@[simp] def gConsD (g : DTG) (gs : DTGs) : DTGs := fun ds DW p M Q => match ds with
  | d :: r => g d DW p M fun p1 M1 => gs r DW p1 M1 Q
  | [] => False
def gTupD (n : Nat) (gs : DTGs) : DTG := fun d DW p M Q => match res M d with
  | .tup ds => ds.length = n ∧ gs ds DW p M Q
  | _ => False
/-- o[i] = v by values -/
def putD {κ : Type} [DecidableEq κ] (kvs : List (κ × D)) (k : κ) (v : D) : List (κ × D) :=
  if kvs.any (fun kv => decide (kv.1 = k)) then kvs.map (fun kv => if kv.1 = k then (kv.1, v) else kv) else kvs ++ [(k, v)]
def dSet (o i v : D) (M : Mst) (Q : Mst → Prop) : Prop := match o with
  | .ref a => match M a with
    | some (.lst ds) => match i with
      | .int k => match ixN ds.length k with
        | some j => Q (put M a (.lst (ds.set j v)))
        | none => False
      | _ => False
    | some (.dK kvs) => match keyD i with
      | some k => kvs.length < 100000 ∧ Q (put M a (.dK (putD kvs k v)))
      | none => False
    | some (.dT kvs) => match i with
      | .tup ks => match keysD ks with
        | some k => kvs.length < 100000 ∧ Q (put M a (.dT (putD kvs k v)))
        | none => False
      | _ => False
    | _ => False
  | _ => False
def gSubD (qo qi : DTE) : DTG := fun d DW p M Q => qo DW p M fun o M1 => qi DW p M1 fun i M2 => dSet o i d M2 fun M3 => Q p M3
section
variable {X : Cx} {W : WX} {x : Str} {pos : Pos}
theorem qg_name {i : Nat} {ix : List Nat} (h : PG X (.Name x pos) (gName i)) (hm : i ∈ ix) : QGi X W ix (.Name x pos) (gName i) (gNameD i) :=
  ⟨h, fun DW G H p M s d v Q Q' hw S r q k => k G H _ M _ (Same.refl _) (S.set i r) (Only.set hm) q⟩
theorem qgs_nil {ix : List Nat} : QGis X W ix [] gNil gNilD := ⟨pgs_nil, fun DW G H p M s ds vs Q Q' hw S r ⟨e, q⟩ k => by
  subst e; cases r; exact ⟨rfl, k G H p M s (Same.refl _) S (Only.refl _ _) q⟩⟩
theorem qgs_cons {ix : List Nat} {e : Expr} {es : List Expr} {t : TG} {q : DTG} {u : TGs} {r : DTGs} (h1 : QGi X W ix e t q) (h2 : QGis X W ix es u r) (hs : (assignEach (e :: es) X.env).map (·.2) = assign e X.env :: (assignEach es X.env).map (·.2) := by rfl) :
    QGis X W ix (e :: es) (gCons t u) (gConsD q r) := ⟨pgs_cons h1.pe h2.pe hs, fun DW G H p M s ds vs Q Q' hw S rr h k => by
  cases ds with
  | nil => exact h.elim
  | cons d ds =>
    obtain ⟨v, vr, e1, r1, r2⟩ := rr
    exact ⟨v, vr, e1, h1.rf DW G H p M s d v _ _ hw S r1 h fun G1 H1 p1 M1 s1 e1 S1 o1 h1 => h2.rf DW G1 H1 p1 M1 s1 ds vr Q Q' (hw.mono e1) S1 (RepL.mono e1 _ _ r2) h1
      fun G2 H2 p2 M2 s2 e2 S2 o2 h2 => k G2 H2 p2 M2 s2 (e1.trans e2) S2 (o1.trans o2) h2⟩⟩
theorem qg_tup {ix : List Nat} {es : List Expr} {kk : Nat} {t : TGs} {q : DTGs} {n : Nat} (hc : X.calm = true) (h : QGis X W ix es t q) (hn : (assignEach es X.env).length = n := by rfl) (hst : (assignEach es X.env).findIdx? (·.1) = none := by rfl) :
    QGi X W ix (.Tuple es kk pos) (gTup X.K n t) (gTupD n q) := ⟨pg_tup hc h.pe hn hst, fun DW G H p M s d v Q Q' hw S r hq k => by
  unfold gTupD at hq
  split at hq
  · next ds e1 =>
    obtain ⟨hl, hq⟩ := hq
    obtain ⟨a, vs, rfl, g1, g2, g3⟩ := as_tup S r e1
    exact ⟨a, vs, rfl, g1, g2.length.trans hl, h.rf DW G H p M s ds vs Q Q' hw S g2 hq k⟩
  · exact hq.elim⟩
theorem set_dict (hu : X.A.units + 1 < cLine) : PSet X (fun o i v H Q => ∃ a H4, o = .ref a ∧ DPut H a i v H4 ∧ Q H4) := by
  intro pins s σ H o i v ov iv u Q I ro ri rv h
  obtain ⟨a, H4, rfl, g, q⟩ := h
  cases ro
  exact d_setItem hu I g ri rv fun s' I' => ⟨H4, I', q⟩
def rSetX : TSet := fun o i v H Q => rSetL o i v H Q ∨ ∃ a H4, o = .ref a ∧ DPut H a i v H4 ∧ Q H4
theorem set_any (hu : X.A.units + 1 < cLine) : PSet X rSetX := by
  intro pins s σ H o i v ov iv u Q I ro ri rv h
  rcases h with h | h
  · exact set_list pins s σ H o i v ov iv u Q I ro ri rv h
  · exact set_dict hu pins s σ H o i v ov iv u Q I ro ri rv h
theorem any_key {κ : Type} [DecidableEq κ] {kvs : List (κ × D)} {kv : List (κ × V)} {k : κ} (h : kv.map (·.1) = kvs.map (·.1)) : kv.any (fun q => decide (q.1 = k)) = kvs.any (fun q => decide (q.1 = k)) := by
  have e1 : kv.any (fun q => decide (q.1 = k)) = (kv.map (·.1)).any (fun q => decide (q = k)) := by rw [List.any_map]; rfl
  have e2 : kvs.any (fun q => decide (q.1 = k)) = (kvs.map (·.1)).any (fun q => decide (q = k)) := by rw [List.any_map]; rfl
  rw [e1, e2, h]
theorem putMap_rel {K : PySem.W.Frag} {G : Hp} {κ : Type} [DecidableEq κ] {k : κ} {d : D} {v : V} (rd : Rep K G d v) : ∀ {kvs : List (κ × D)} {kv : List (κ × V)}, kv.map (·.1) = kvs.map (·.1) → RepL K G (kvs.map (·.2)) (kv.map (·.2)) →
    (kv.map fun q => if q.1 = k then (q.1, v) else q).map (·.1) = (kvs.map fun q => if q.1 = k then (q.1, d) else q).map (·.1) ∧ RepL K G ((kvs.map fun q => if q.1 = k then (q.1, d) else q).map (·.2)) ((kv.map fun q => if q.1 = k then (q.1, v) else q).map (·.2))
  | [], [], _, _ => ⟨rfl, rfl⟩
  | [], _ :: _, h, _ => by cases h
  | _ :: _, [], h, _ => by cases h
  | (a, e) :: kvs, (b, w) :: kv, h, r => by
    simp only [List.map_cons, List.cons.injEq] at h
    obtain ⟨rfl, h⟩ := h
    obtain ⟨v', r', e1, h2, h3⟩ := r
    simp only [List.map_cons, List.cons.injEq] at e1
    obtain ⟨rfl, rfl⟩ := e1
    obtain ⟨i1, i2⟩ := putMap_rel rd h h3
    by_cases z : b = k
    · simp only [List.map_cons, z, if_true]
      exact ⟨by rw [i1], RepL.cons rd i2⟩
    · simp only [List.map_cons, z, if_false]
      exact ⟨by rw [i1], RepL.cons h2 i2⟩
theorem put_rel {K : PySem.W.Frag} {G : Hp} {κ : Type} [DecidableEq κ] {kvs : List (κ × D)} {kv : List (κ × V)} {k : κ} {d : D} {v : V} (h : kv.map (·.1) = kvs.map (·.1)) (r : RepL K G (kvs.map (·.2)) (kv.map (·.2))) (rd : Rep K G d v) :
    (putK kv k v).map (·.1) = (putD kvs k d).map (·.1) ∧ RepL K G ((putD kvs k d).map (·.2)) ((putK kv k v).map (·.2)) ∧ (putK kv k v).length ≤ kv.length + 1 := by
  unfold putK putD
  rw [any_key h]
  cases kvs.any (fun q => decide (q.1 = k)) with
  | true =>
    simp only [if_true]
    obtain ⟨i1, i2⟩ := putMap_rel (k := k) rd h r
    exact ⟨i1, i2, by simp⟩
  | false =>
    simp only [Bool.false_eq_true, if_false]
    refine ⟨by simp [h], ?_, by simp⟩
    rw [List.map_append, List.map_append]
    exact RepL.append r (RepL.cons rd rfl)
theorem kOk_of {K : PySem.W.Frag} {G : Hp} {d : D} {v : V} {k : Key} (r : Rep K G d v) (h : keyD d = some k) : kOk k := by
  cases d with
  | int i => cases h; trivial
  | str x => cases h; exact r.2
  | _ => cases h
theorem kOks_of {K : PySem.W.Frag} {G : Hp} : ∀ {ds : List D} {vs : List V} {ks : List Key}, RepL K G ds vs → keysD ds = some ks → ks.length = ds.length ∧ ∀ k ∈ ks, kOk k
  | [], _, _, h, e => by cases h; cases e; exact ⟨rfl, fun _ h => by cases h⟩
  | d :: ds, _, ks, ⟨v, r, h1, h2, h3⟩, e => by
    simp only [keysD] at e
    split at e
    · next k ks' e1 e2 =>
      cases e
      obtain ⟨i1, i2⟩ := kOks_of h3 e2
      refine ⟨by simp [i1], fun q hq => ?_⟩
      rcases List.mem_cons.mp hq with rfl | hq
      · exact kOk_of h2 e1
      · exact i2 q hq
    · cases e
theorem putD_keys {κ : Type} [DecidableEq κ] {P : κ → Prop} {kvs : List (κ × D)} {k : κ} {d : D} (h : ∀ q ∈ kvs, P q.1) (hk : P k) : ∀ q ∈ putD kvs k d, P q.1 := by
  intro q hq
  unfold putD at hq
  split at hq
  · obtain ⟨r, h1, h2⟩ := List.mem_map.mp hq
    subst h2
    split
    · exact h r h1
    · exact h r h1
  · rcases List.mem_append.mp hq with hq | hq
    · exact h q hq
    · have : q = (k, d) := by simpa using hq
      subst this; exact hk
theorem qg_sub {ix : List Nat} {o i : Expr} {to ti : TE} {qo qi : DTE} (hu : X.A.units + 1 < cLine) (ho : QE X W o to qo) (hi : QE X W i ti qi)
    (ha : ∀ v, assign (.Subscript o i pos) X.env v = (do
      let ov ← holding [v] (eval o X.env)
      let iv ← holding [v, ov] (eval i X.env)
      standAt pos
      holding [v, ov, iv] (setItem ov iv v)
      release [v, ov, iv] []) := by intro _; rfl) : QGi X W ix (.Subscript o i pos) (gSub to ti rSetX) (gSubD qo qi) :=
  ⟨pg_sub ho.pe hi.pe (set_any hu) ha, fun DW G H p M s d v Q Q' hw S r h k => ho.rf DW G H p M s _ _ hw S h fun G1 H1 M1 x xv e1 S1 r1 h1 =>
    hi.rf DW G1 H1 p M1 s _ _ (hw.mono e1) S1 h1 fun G2 H2 M2 y yv e2 S2 r2 h2 => by
      have r' := Rep.mono (e1.trans e2) _ _ r
      have r1' := Rep.mono e2 _ _ r1
      unfold dSet at h2
      split at h2
      · next a =>
        cases r1'
        split at h2
        · next ds em =>
          obtain ⟨gn, vs, g1, g2, g3⟩ := S2.mem _ _ em
          split at h2
          · next n =>
            cases r2
            split at h2
            · next j ej =>
              refine .inl ⟨a, vs, n, j, rfl, rfl, g1, by rw [g2.length]; exact ej, ?_⟩
              exact k G2 _ p _ s (e1.trans e2) (S2.put (mo := .lst (ds.set j d)) gn ⟨_, upd_same, RepL.set j g2 r', by simpa using g3⟩) (Only.refl _ _) h2
            · exact h2.elim
          · exact h2.elim
        · next kvs em =>
          obtain ⟨gn, kv, g1, g2, g3, g4, g5⟩ := S2.mem _ _ em
          split at h2
          · next kk ek =>
            have kk1 := kOk_of r2 ek
            obtain ⟨hl, h2⟩ := h2
            cases keyD_of r2 ek
            have hl' : kv.length < sizeLine := by
              have e5 : kv.length = kvs.length := by have := congrArg List.length g2; simpa using this
              rw [sizeLine_eq]; omega
            obtain ⟨p1, p2, p3⟩ := put_rel (k := kk) g2 g3 r'
            refine .inr ⟨a, _, rfl, DPut.k g1 hl', ?_⟩
            exact k G2 _ p _ s (e1.trans e2) (S2.put (mo := .dK (putD kvs kk d)) gn ⟨_, upd_same, p1, p2, by omega, putD_keys g5 kk1⟩) (Only.refl _ _) h2
          · exact h2.elim
        · next kvs em =>
          obtain ⟨gn, kv, g1, g2, g3, g4, g5⟩ := S2.mem _ _ em
          split at h2
          · next ks =>
            split at h2
            · next kk ek =>
              obtain ⟨hl, h2⟩ := h2
              obtain ⟨b, ws, rfl, c1, c2, c3⟩ := r2
              have e6 := keysD_of c2 ek
              obtain ⟨kl, kk1⟩ := kOks_of c2 ek
              have kl' : kk.length ≤ sizeLine := by rw [kl, ← c2.length]; exact c3
              have hl' : kv.length < sizeLine := by
                have e5 : kv.length = kvs.length := by have := congrArg List.length g2; simpa using this
                rw [sizeLine_eq]; omega
              obtain ⟨p1, p2, p3⟩ := put_rel (k := kk) g2 g3 r'
              refine .inr ⟨a, _, rfl, DPut.t g1 (by rw [S2.same _ _ c1, e6]) hl', ?_⟩
              exact k G2 _ p _ s (e1.trans e2) (S2.put (mo := .dT (putD kvs kk d)) gn ⟨_, upd_same, p1, p2, by omega, putD_keys (P := fun k => k.length ≤ sizeLine ∧ ∀ x ∈ k, kOk x) g5 ⟨kl', kk1⟩⟩) (Only.refl _ _) h2
            · exact h2.elim
          · exact h2.elim
        · exact h2.elim
      · exact h2.elim⟩
@[simp] def qAsg (qe : DTE) (g : DTG) : DTS := fun DW DE p M => qe DW p M fun d M1 => g d DW p M1 DE.nx
theorem ref_asg {K : PySem.W.Frag} {te : TE} {qe : DTE} {t : TG} {g : DTG} {ix : List Nat} (h : RefE K W te qe) (hg : RefGi K W ix t g) : RefS K W (tAsg te t) (qAsg qe g) :=
  fun DW G H p M s DE E hw S q k => h DW G H p M s _ _ hw S q fun G1 H1 M1 d v e1 S1 r1 h1 => hg DW G1 H1 p M1 s d v _ _ (hw.mono e1) S1 r1 h1 fun G2 H2 p2 M2 s2 e2 S2 _ h2 => k.nx G2 H2 p2 M2 s2 (e1.trans e2) S2 h2
theorem qs_asg {tg e : Expr} {te : TE} {qe : DTE} {t : TG} {g : DTG} {ix : List Nat} (he : QE X W e te qe) (hg : QGi X W ix tg t g) (hs : swapsWithSole [tg] e pos.line X.env = pure false := by rfl) (hw : swappedStores [tg] e X.env = pure none := by rfl)
    (h1 : (assignEach [tg] X.env).map (·.2) = [assign tg X.env] := by rfl) : QS X W (.Assign [tg] e pos) (tAsg te t) (qAsg qe g) := ⟨ps_asg he.pe hg.pe hs hw h1, ref_asg he.rf hg.rf⟩
theorem qs_set {i : Nat} {x : Str} {e : Expr} {te : TE} {qe : DTE} {pos' : Pos} (h : PS X (.Assign [.Name x pos'] e pos) (tAsg te (gName i))) (he : RefE X.K W te qe) : QS X W (.Assign [.Name x pos'] e pos) (tAsg te (gName i)) (qAsg qe (gNameD i)) :=
  ⟨h, fun DW G H p M s DE E hw S q k => he DW G H p M s _ _ hw S q fun G1 H1 M1 d v e1 S1 r1 h1 => k.nx G1 H1 _ M1 _ e1 (S1.set i r1) h1⟩
@[simp] def qPar (i j : Nat) (qa : DTA) : DTS := fun DW DE p M => qa DW p M fun ds M1 => match ds with
  | [a, b] => DE.nx ((p.set i (some a)).set j (some b)) M1
  | _ => False
theorem qs_par {i j : Nat} {st : Stmt} {ta : TA} {qa : DTA} (h : PS X st (tPar i j ta)) (ha : RefA X.K W ta qa) : QS X W st (tPar i j ta) (qPar i j qa) :=
  ⟨h, fun DW G H p M s DE E hw S q k => ha DW G H p M s _ _ hw S q fun G1 H1 M1 ds vs e1 S1 r1 h1 => by
    split at h1
    · next a b =>
      obtain ⟨v, u, rfl, r2, r3⟩ := repL2 r1
      exact ⟨v, u, rfl, k.nx G1 H1 _ M1 _ e1 ((S1.set i r2).set j r3) h1⟩
    · exact h1.elim⟩
@[simp] def qPar3 (i j l : Nat) (qa : DTA) : DTS := fun DW DE p M => qa DW p M fun ds M1 => match ds with
  | [a, b, c] => DE.nx (((p.set i (some a)).set j (some b)).set l (some c)) M1
  | _ => False
/-- x op= e -/
def rAugX : TIp := fun x y H Q => ipI (fun i j => i + j) x y H Q ∨ rExt2 x y H Q
def dAug : DOp := fun x y M Q => match x, y with
  | .int i, .int j => Q (.int (i + j)) M
  | .ref a, y => match M a with
    | some (.lst ds) => match res M y with
      | .lst es => ds.length + es.length ≤ 100000 ∧ Q (.ref a) (put M a (.lst (ds ++ es)))
      | _ => False
    | _ => False
  | _, _ => False
theorem ip_any : PIp X .Add rAugX := by
  intro pins s σ H x y v u Q I r1 r2 h
  rcases h with h | h
  · exact ip_add pins s σ H x y v u Q I r1 r2 h
  · exact iop_ext pins s σ H x y v u Q I r1 r2 h
def qAug (i : Nat) (qe : DTE) (o : DOp) : DTS := fun DW DE p M => match p[i]? with
  | some (some x) => qe DW p M fun y M1 => o x y M1 fun z M2 => DE.nx (p.set i (some z)) M2
  | _ => False
theorem ref_aug {K : PySem.W.Frag} : RefR2 K rAugX dAug := fun G H p M s x y v u Q Q' S r1 r2 h k => by
  unfold dAug at h
  split at h
  · next i j => cases r1; cases r2; exact .inl ⟨i, j, rfl, rfl, k G H M (.int (i + j)) _ (Same.refl _) S rfl h⟩
  · next a =>
    cases r1
    split at h
    · next ds em =>
      obtain ⟨gn, vs, g1, g2, g3⟩ := S.mem _ _ em
      split at h
      · next es e1 =>
        obtain ⟨hl, h⟩ := h
        obtain ⟨b, us, rfl, c1, c2, c3⟩ := as_lst S r2 e1
        have z : vs.length + us.length ≤ sizeLine := by rw [g2.length, c2.length]; exact sz1000 hl
        refine .inr ⟨a, b, vs, us, rfl, rfl, g1, c1, z, ?_⟩
        exact k G _ _ (.ref a) _ (Same.refl _) (S.put (mo := .lst (ds ++ es)) gn ⟨_, upd_same, RepL.append g2 c2, by rw [List.length_append]; exact z⟩) rfl h
      · exact h.elim
    · exact h.elim
  · exact h.elim
theorem qs_augX {i : Nat} {x : Str} {e : Expr} {te : TE} {qe : DTE} {op : Operator} {ti : TIp} {o : DOp} {pos' : Pos} (h : PS X (.AugAssign (.Name x pos') op e pos) (tAug i te ti)) (he : RefE X.K W te qe) (ho : RefR2 X.K ti o) : QS X W (.AugAssign (.Name x pos') op e pos) (tAug i te ti) (qAug i qe o) :=
  ⟨h, fun DW G H p M s DE E hw S q k => by
    unfold qAug at q
    split at q
    · next d e =>
      obtain ⟨v, h1, h2⟩ := S.env i d e
      exact ⟨v, h1, he DW G H p M s _ _ hw S q fun G1 H1 M1 y u e1 S1 r1 q1 => ho G1 H1 p M1 s d y v u _ _ S1 (Rep.mono e1 _ _ h2) r1 q1 fun G2 H2 M2 z w e2 S2 r2 q2 => k.nx G2 H2 _ M2 _ (e1.trans e2) (S2.set i r2) q2⟩
    · exact q.elim⟩
end
end DL
namespace DL
open PySem L2
/-- an iterator that gives these things, as long as Sty holds of the mutable objects -/
structure Feed (K : PySem.W.Frag) (G : Hp) (J : It) (ds : List D) (Sty : Mst → Prop) : Prop where
  go : ∀ G' H p M s i, Same G G' → Sim K G' H p M s → Sty M → i < ds.length → J.go i H
  yld : ∀ G' H p M s i x H', Same G G' → Sim K G' H p M s → Sty M → J.yld i H x H' → ∀ d, ds[i]? = some d → ∃ G2, Same G' G2 ∧ Sim K G2 H' p M s ∧ Rep K G2 d x
  stop : ∀ G' H p M s, Same G G' → Sim K G' H p M s → Sty M → J.stop ds.length H
abbrev DTI := DWt → Rho → Mst → (List D → (Mst → Prop) → Mst → Prop) → Prop
def RefI (K : PySem.W.Frag) (W : WX) (t : TI) (q : DTI) : Prop := ∀ DW G H p M s (R : List D → (Mst → Prop) → Mst → Prop) (R' : It → Hp → Prop), WLink K G DW W → Sim K G H p M s → q DW p M R →
  (∀ G' H' M' J ds Sty, Same G G' → Sim K G' H' p M' s → Feed K G' J ds Sty → ds.length ≤ sizeLine → R ds Sty M' → R' J H') → t s H R'
structure QI (X : Cx) (W : WX) (tg e : Expr) (t : TI) (q : DTI) : Prop where
  pe : PI X tg e t
  rf : RefI X.K W t q
def always : Mst → Prop := fun _ => True
@[simp] theorem always_eq {M : Mst} : always M = True := rfl
section
variable {K : PySem.W.Frag} {G : Hp}
theorem feed_list {a : Addr} {ds : List D} {vs : List V} {Sty : Mst → Prop} (r : RepL K G ds vs) (h : ∀ G' H p M s, Same G G' → Sim K G' H p M s → Sty M → SqL K H a vs) : Feed K G (Itl K a) ds Sty where
  go := fun G' H p M s i e S st hi => by
    have q := h G' H p M s e S st
    have hl := r.length
    exact ⟨vs, vs[i]'(by omega), q, by simp [hl, hi]⟩
  yld := fun G' H p M s i x H' e S st y d hd => by
    obtain ⟨rfl, y⟩ := y
    have q := y vs (h G' _ p M s e S st)
    obtain ⟨v, h1, h2⟩ := (RepL.mono e _ _ r).get hd
    rw [q] at h1; cases h1
    exact ⟨G', Same.refl _, S, h2⟩
  stop := fun G' H p M s e S st => ⟨vs, h G' H p M s e S st, by rw [r.length]; exact Nat.le_refl _⟩
theorem feed_tup {a : Addr} {ds : List D} {vs : List V} (r : RepL K G ds vs) (h : SqT K G a vs) : Feed K G (Itt K a) ds always where
  go := fun G' H p M s i e S st hi => by
    have hl := r.length
    exact ⟨vs, vs[i]'(by omega), same_t (e.trans S.same) h, by simp [hl, hi]⟩
  yld := fun G' H p M s i x H' e S st y d hd => by
    obtain ⟨rfl, y⟩ := y
    have q := y vs (same_t (e.trans S.same) h)
    obtain ⟨v, h1, h2⟩ := (RepL.mono e _ _ r).get hd
    rw [q] at h1; cases h1
    exact ⟨G', Same.refl _, S, h2⟩
  stop := fun G' H p M s e S st => ⟨vs, same_t (e.trans S.same) h, by rw [r.length]; exact Nat.le_refl _⟩
def signs (z : Str) : List D := z.cps.toList.map fun c => .str ⟨#[c]⟩
theorem feed_str {z : Str} (ho : PyData.strOk z = true) : Feed K G (Its z) (signs z) always where
  go := fun G' H p M s i e S st hi => by show i < z.cps.size; simpa [signs] using hi
  yld := fun G' H p M s i x H' e S st y d hd => by
    obtain ⟨rfl, c, h1, rfl⟩ := y
    refine ⟨G', Same.refl _, S, ?_⟩
    simp only [signs, List.getElem?_map, Array.getElem?_toList, h1, Option.map_some, Option.some.injEq] at hd
    subst hd
    refine ⟨rfl, sz1000 (by show 1 ≤ 100000; decide), ?_⟩
    have ho' : ∀ y ∈ z.cps.toList, decide (y < 0x110000) = true := by
      unfold PyData.strOk at ho
      rw [← Array.all_toList] at ho
      exact List.all_eq_true.mp ho
    have := ho' c (by rw [Array.mem_toList_iff]; exact Array.mem_of_getElem? h1)
    simpa [PyData.strOk] using this
  stop := fun G' H p M s e S st => by show z.cps.size ≤ _; simp [signs]
def rangeD (lo : Int) (n : Nat) : List D := (List.range n).map fun i => .int (lo + (i : Nat))
theorem feed_range {lo : Int} {n : Nat} : Feed K G (Itr lo n) (rangeD lo n) always where
  go := fun G' H p M s i e S st hi => by simpa [rangeD, Itr] using hi
  yld := fun G' H p M s i x H' e S st y d hd => by
    obtain ⟨rfl, rfl⟩ := y
    refine ⟨G', Same.refl _, S, ?_⟩
    simp only [rangeD, List.getElem?_map, Option.map_eq_some_iff] at hd
    obtain ⟨j, h1, rfl⟩ := hd
    obtain ⟨h2, h3⟩ := List.getElem?_eq_some_iff.mp h1
    simp at h3
    subst h3
    rfl
  stop := fun G' H p M s e S st => by show n ≤ _; simp [rangeD]
end
def iAny (K : PySem.W.Frag) (tl : TE) : TI := fun σ H R => tl σ H fun x H1 => (∃ a, x = .ref a ∧ (∃ xs, SqL K H1 a xs) ∧ R (Itl K a) H1) ∨ (∃ a, x = .ref a ∧ (∃ xs, SqT K H1 a xs) ∧ R (Itt K a) H1) ∨ ∃ z, x = .str z ∧ R (Its z) H1
theorem pi_any {X : Cx} {tg l : Expr} {tl : TE} (hl : PE X l tl) : PI X tg l (iAny X.K tl) := by
  refine ⟨fun pins s σ H R I h => ?_⟩
  refine thn (hl.run pins s σ H _ I h) fun v s1 ⟨x, H1, I1, r1, q1⟩ => ?_
  rcases q1 with ⟨a, e, ⟨xs, hq⟩, q⟩ | ⟨a, e, ⟨xs, hq⟩, q⟩ | ⟨z, e, q⟩
  · subst e
    cases r1
    obtain ⟨its, rv, p, hz⟩ := I1.list hq
    refine wpAny_pyIter_list p.isList ?_
    refine ⟨s1.heap.objs.size, [s1.heap.objs.size], _, _, H1, rfl, I1.kept (t' := s1.toks) fun b o e => Heap.get?_push_of_some _ e, turn_list a _, ⟨_, Heap.get?_push_size _ rfl, rfl, rfl⟩, fun b hb => ?_, q⟩
    have e : b = s1.heap.objs.size := by simpa using hb
    subst e
    exact I1.fpOk (Nat.le_refl _) (I1.hok.fresh (Nat.le_refl _))
  · subst e
    cases r1
    obtain ⟨its, rv, p, hz⟩ := I1.tuple hq
    refine wpAny_pyIter_tuple (show s1.heap.IsTuple a its.toArray from p) ?_
    refine ⟨s1.heap.objs.size, [s1.heap.objs.size], _, _, H1, rfl, I1.kept (t' := s1.toks) fun b o e => Heap.get?_push_of_some _ e, turn_tuple a _, ⟨_, Heap.get?_push_size _ rfl, rfl, rfl⟩, fun b hb => ?_, q⟩
    have e : b = s1.heap.objs.size := by simpa using hb
    subst e
    exact I1.fpOk (Nat.le_refl _) (I1.hok.fresh (Nat.le_refl _))
  · subst e
    obtain ⟨t, rfl⟩ := r1
    cases ha : z.cps.all (· < 128)
    · exact wpAny_pyIter_wide ha (pi_one (tk := s1.toks) I1 _ (turn_str _ z t "str_iterator" (.inr rfl)) ⟨_, Heap.get?_push_size _ rfl, rfl, rfl⟩ q)
    · exact wpAny_pyIter_ascii ha (pi_one (tk := s1.toks) I1 _ (turn_str _ z t "str_ascii_iterator" (.inl rfl)) ⟨_, Heap.get?_push_size _ rfl, rfl, rfl⟩ q)
def holds (a : Addr) (o : MO) : Mst → Prop := fun M => M a = some o
@[simp] theorem holds_eq {a : Addr} {o : MO} {M : Mst} : holds a o M = (M a = some o) := rfl
def qiAny (qe : DTE) : DTI := fun DW p M R => qe DW p M fun d M1 => match d with
  | .lst ds => R ds always M1
  | .tup ds => R ds always M1
  | .ktp ds => R ds always M1
  | .xtp ds => R ds always M1
  | .str z => R (signs z) always M1
  | .ref a => match M1 a with
    | some (.lst ds) => R ds (holds a (.lst ds)) M1
    | _ => False
  | _ => False
section
variable {X : Cx} {W : WX} {tg e : Expr} {te : TE} {qe : DTE}
theorem qi_any (he : QE X W e te qe) : QI X W tg e (iAny X.K te) (qiAny qe) :=
  ⟨pi_any he.pe, fun DW G H p M s R R' hw S h k => he.rf DW G H p M s _ _ hw S h fun G1 H1 M1 d v e1 S1 r1 h1 => by
    split at h1
    · next ds =>
      obtain ⟨a, vs, rfl, g1, g2, g3⟩ := r1
      refine .inl ⟨a, rfl, ⟨vs, .inl (.inl (S1.same _ _ g1))⟩, k G1 H1 M1 _ ds always e1 S1 (feed_list g2 fun G' H p M s e S _ => .inl (.inl (S.same _ _ (e _ _ g1)))) (by rw [← g2.length]; exact g3) h1⟩
    · next ds =>
      obtain ⟨a, vs, rfl, g1, g2, g3⟩ := r1
      exact .inr (.inl ⟨a, rfl, ⟨vs, .inl (.inl (S1.same _ _ g1))⟩, k G1 H1 M1 _ ds always e1 S1 (feed_tup g2 (.inl (.inl g1))) (by rw [← g2.length]; exact g3) h1⟩)
    · next ds =>
      obtain ⟨a, vs, rfl, g1, g2, g3⟩ := r1
      exact .inr (.inl ⟨a, rfl, ⟨vs, same_t S1.same g1⟩, k G1 H1 M1 _ ds always e1 S1 (feed_tup g2 g1) (by rw [← g2.length]; exact g3) h1⟩)
    · next ds =>
      obtain ⟨a, o, vs, rfl, g1, g0, g2, g3⟩ := r1
      exact .inr (.inl ⟨a, rfl, ⟨vs, .inl (.inr ⟨o, S1.same _ _ g1⟩)⟩, k G1 H1 M1 _ ds always e1 S1 (feed_tup g2 (.inl (.inr ⟨o, g1⟩))) (by rw [← g2.length]; exact g3) h1⟩)
    · next z =>
      obtain ⟨rfl, g1, g2⟩ := r1
      exact .inr (.inr ⟨z, rfl, k G1 H1 M1 _ _ always e1 S1 (feed_str g2) (by simpa [signs, Str.length] using g1) h1⟩)
    · next a =>
      cases r1
      split at h1
      · next ds em =>
        obtain ⟨gn, vs, g1, g2, g3⟩ := S1.mem _ _ em
        have lk : ∀ G' H p M s, Same G1 G' → Sim X.K G' H p M s → holds a (.lst ds) M → ∃ us, H a = some (.lst us) ∧ RepL X.K G' ds us := fun G' H p M s e S st => by
          obtain ⟨_, us, c1, c2, _⟩ := S.mem _ _ st
          exact ⟨us, c1, c2⟩
        refine .inl ⟨a, rfl, ⟨vs, .inl (.inl g1)⟩, k G1 H1 M1 _ ds _ e1 S1 ⟨fun G' H p M s i e S st hi => ?_, fun G' H p M s i x H' e S st y d hd => ?_, fun G' H p M s e S st => ?_⟩ (by rw [← g2.length]; exact g3) h1⟩
        · obtain ⟨us, c1, c2⟩ := lk G' H p M s e S st
          have hl := c2.length
          exact ⟨us, us[i]'(by omega), .inl (.inl c1), by simp [hl, hi]⟩
        · obtain ⟨us, c1, c2⟩ := lk G' H p M s e S st
          obtain ⟨rfl, y⟩ := y
          have q := y us (.inl (.inl c1))
          obtain ⟨v, h1, h2⟩ := c2.get hd
          rw [q] at h1; cases h1
          exact ⟨G', Same.refl _, S, h2⟩
        · obtain ⟨us, c1, c2⟩ := lk G' H p M s e S st
          exact ⟨us, .inl (.inl c1), by rw [c2.length]; exact Nat.le_refl _⟩
      · exact h1.elim
    · exact h1.elim⟩
/-- range(n), range(a, b) -/
def qiRng1 (qa : DTA) : DTI := fun DW p M R => qa DW p M fun ds M1 => match ds with
  | [.int j] => -(2 ^ 62) ≤ j ∧ j ≤ 100000 ∧ R (rangeD 0 j.toNat) always M1
  | _ => False
variable {a b : Expr} {ta : TA} {qa : DTA} {p pos : Pos}
theorem qi_range1 (hg : Gl X "range") (hm : X.mg "range" = none) (ha : QA X W [a] ta qa) (hs : starEach [a] X.env = [(false, eval a X.env)] := by rfl) : QI X W tg (.Call (.Name "range" p) [a] [] pos) (iRng1 ta) (qiRng1 qa) :=
  ⟨pi_range1 hg hm ha.pe hs, fun DW G H p M s R R' hw S h k => ha.rf DW G H p M s _ _ hw S h fun G1 H1 M1 ds vs e1 S1 r1 h1 => by
    split at h1
    · next j =>
      obtain ⟨v, rfl, r2⟩ := repL1 r1
      cases r2
      obtain ⟨b1, b2, h1⟩ := h1
      exact ⟨j, rfl, b1, by omega, k G1 H1 M1 _ _ _ e1 S1 feed_range (by simp only [rangeD, List.length_map, List.length_range]; exact sz1000 (by omega)) h1⟩
    · exact h1.elim⟩
end
def loopL (Sty : Mst → Prop) (g : DTG) (tb : DTS) (DW : DWt) (DE : DEnds) : List D → Rho → Mst → Prop
  | [], p, M => Sty M ∧ DE.nx p M
  | d :: ds, p, M => Sty M ∧ g d DW p M fun p' M' => tb DW { DE with nx := loopL Sty g tb DW DE ds, ct := loopL Sty g tb DW DE ds, bk := DE.nx } p' M'
def qFor (qi : DTI) (g : DTG) (tb : DTS) : DTS := fun DW DE p M => qi DW p M fun ds Sty M1 => loopL Sty g tb DW DE ds p M1
section
variable {X : Cx} {W : WX} {tg iter : Expr} {body : List Stmt} {wi : TI} {qi : DTI} {t : TG} {g : DTG} {ix : List Nat} {tb : TS} {qb : DTS} {pos : Pos}
theorem ref_for {K : PySem.W.Frag} (hi : RefI K W wi qi) (hg : RefGi K W ix t g) (hb : RefS K W tb qb) : RefS K W (tFor wi t tb) (qFor qi g qb) :=
  fun DW G H p M s DE E hw S h k => hi DW G H p M s _ _ hw S h fun G1 H1 M1 J ds Sty e1 S1 F hlen h1 => by
    refine ⟨fun i m σ H => m = ds.length - i ∧ i ≤ ds.length ∧ ∃ G' p' M', Same G1 G' ∧ Sim K G' H p' M' σ ∧ loopL Sty g qb DW DE (ds.drop i) p' M', ⟨ds.length, by simp, Nat.zero_le _, G1, p, M1, Same.refl _, S1, by simpa using h1⟩, ?_⟩
    rintro i m σ H2 ⟨rfl, hi2, G', p', M', e2, S2, h2⟩
    by_cases hlt : i < ds.length
    · have ed : ds.drop i = ds[i] :: ds.drop (i + 1) := List.drop_eq_getElem_cons hlt
      rw [ed] at h2
      obtain ⟨st, h2⟩ := h2
      refine .inr ⟨F.go G' H2 p' M' σ i e2 S2 st hlt, fun σ' H' => ∃ G3 p3 M3, Same G1 G3 ∧ Sim K G3 H' p3 M3 σ' ∧ loopL Sty g qb DW DE (ds.drop (i + 1)) p3 M3,
        fun σ' H' n => ⟨ds.length - (i + 1), by omega, rfl, hlt, n⟩, fun x H' y => ?_⟩
      obtain ⟨G3, e3, S3, r3⟩ := F.yld G' H2 p' M' σ i x H' e2 S2 st y ds[i] (List.getElem?_eq_getElem hlt)
      have e13 := e2.trans e3
      refine hg DW G3 H' p' M' σ _ x _ _ (hw.mono (e1.trans e13)) S3 r3 h2 fun G4 H4 p4 M4 σ4 e4 S4 _ h4 => ?_
      have e14 := e13.trans e4
      refine hb DW G4 H4 p4 M4 σ4 _ _ (hw.mono (e1.trans e14)) S4 h4 ⟨fun G5 H5 p5 M5 σ5 e5 S5 h5 => ⟨G5, p5, M5, e14.trans e5, S5, h5⟩, fun G5 H5 p5 M5 σ5 d v e5 S5 r5 h5 => k.rt G5 H5 p5 M5 σ5 d v ((e1.trans e14).trans e5) S5 r5 h5,
        fun G5 H5 p5 M5 σ5 e5 S5 h5 => k.nx G5 H5 p5 M5 σ5 ((e1.trans e14).trans e5) S5 h5, fun G5 H5 p5 M5 σ5 e5 S5 h5 => ⟨G5, p5, M5, e14.trans e5, S5, h5⟩⟩
    · have e : i = ds.length := by omega
      subst e
      rw [List.drop_length] at h2
      exact .inl ⟨F.stop G' H2 p' M' σ e2 S2 h2.1, k.nx G' H2 p' M' σ (e1.trans e2) S2 h2.2⟩
theorem qs_for (hp : PassesOwn (model X.prog X.w) X.A X.env X.xe) (hc : X.calm = true) (hi : QI X W tg iter wi qi) (hg : QGi X W ix tg t g) (hb : QSs X W body tb qb) (hs : ∀ x, foldedSetIterable iter X.env x = pure x := by intro _; rfl) :
    QS X W (.For tg iter body [] pos) (tFor wi t tb) (qFor qi g qb) := ⟨ps_for hp hc hi.pe hg.pe hb.pe hs, ref_for hi.rf hg.rf hb.rf⟩
end
abbrev W0 : WX := fun _ _ _ _ => False
abbrev DW0 : DWt := fun _ _ _ => False
structure QTs (X : Cx) (W : WX) (ifs : List Expr) (t : TT) (q : DTT) : Prop where
  pe : PTs X ifs t
  rf : RefT X.K W t q
@[simp] def qYes : DTT := fun _ _ M Q => Q true M
theorem qts_nil {X : Cx} {W : WX} : QTs X W [] tYes qYes := ⟨pts_nil, fun DW G H p M s Q Q' hw S h k => k G H M true (Same.refl _) S h⟩
/-- what is made stands at a -/
def compL (m : Bool) (Sty : Mst → Prop) (g : DTG) (tt : DTT) (te : DTE) (ix : List Nat) (a : Addr) (p : Rho) (Q : DK) : List D → Mst → Prop
  | [], M => Sty M ∧ match M a with
    | some (.lst acc) => if m = true then Q (.ref a) M else Q (.lst acc) (del M a)
    | _ => False
  | d :: ds, M => Sty M ∧ g d DW0 (wipeD p ix) M fun p2 M2 => tt DW0 p2 M2 fun b M3 => if b = true then te DW0 p2 M3 fun y M4 => match M4 a with
      | some (.lst acc) => acc.length < 100000 ∧ compL m Sty g tt te ix a p Q ds (put M4 a (.lst (acc ++ [y])))
      | _ => False
    else compL m Sty g tt te ix a p Q ds M3
def qLc (m : Bool) (qi : DTI) (g : DTG) (tt : DTT) (te : DTE) (ix : List Nat) : DTE := fun DW p M Q => qi DW p M fun ds Sty M1 => ∀ a, M1 a = none → compL m Sty g tt te ix a p Q ds (put M1 a (.lst []))
theorem ref_lc {K : PySem.W.Frag} {W : WX} {wi : TI} {qi : DTI} {t : TG} {g : DTG} {ix : List Nat} {tt : TT} {qt : DTT} {te : TE} {qe : DTE} {m : Bool} (hi : RefI K W wi qi) (hg : RefGi K W0 ix t g) (ht : RefT K W0 tt qt) (he : RefE K W0 te qe) :
    RefE K W (tLc wi t tt te ix) (qLc m qi g qt qe ix) :=
  fun DW G H p M s Q Q' hw S h k => hi DW G H p M s _ _ hw S h fun G1 H1 M1 J ds Sty e1 S1 F hlen h1 a ha => by
    have w0 : ∀ G, WLink K G DW0 W0 := fun G G' H' p' M' s' x cls dx e S r z => z.elim
    have h1' := h1 a (S1.mem.fresh ha)
    have S1' : Sim K G1 (upd H1 a (.lst [])) p (put M1 a (.lst [])) s := S1.put (mo := .lst []) (S1.same.free ha) ⟨[], upd_same, rfl, Nat.zero_le _⟩
    refine ⟨fun i n H => n = ds.length - i ∧ i ≤ ds.length ∧ ∃ G' M', Same G1 G' ∧ Sim K G' H p M' s ∧ compL m Sty g qt qe ix a p Q (ds.drop i) M', ⟨ds.length, by simp, Nat.zero_le _, G1, _, Same.refl _, S1', by simpa using h1'⟩, ?_⟩
    rintro i n H2 ⟨rfl, hi2, G', M', e2, S2, h2⟩
    by_cases hlt : i < ds.length
    · have ed : ds.drop i = ds[i] :: ds.drop (i + 1) := List.drop_eq_getElem_cons hlt
      rw [ed] at h2
      obtain ⟨st, h2⟩ := h2
      refine .inr ⟨F.go G' H2 p M' s i e2 S2 st hlt, fun H' => ∃ G3 M3, Same G1 G3 ∧ Sim K G3 H' p M3 s ∧ compL m Sty g qt qe ix a p Q (ds.drop (i + 1)) M3, fun H' q => ⟨ds.length - (i + 1), by omega, rfl, hlt, q⟩, fun x H' y => ?_⟩
      obtain ⟨G3, e3, S3, r3⟩ := F.yld G' H2 p M' s i x H' e2 S2 st y ds[i] (List.getElem?_eq_getElem hlt)
      have e13 := e2.trans e3
      refine hg DW0 G3 H' (wipeD p ix) M' (L2.wipe s ix) _ x _ _ (w0 _) (S3.wipe ix) r3 h2 fun G4 H4 p4 M4 s4 e4 S4 o4 h4 => ?_
      have back : ∀ {G H M}, Sim K G H p4 M s4 → Sim K G H p M s → True := fun _ _ => trivial
      have ww : L2.wipe s4 ix = L2.wipe s ix := by
        rw [o4.wipe]
        apply List.ext_getElem?
        intro j
        by_cases hj : j ∈ ix
        · by_cases hl : j < s.length
          · rw [wipe_in hj (by rw [wipe_length]; exact hl), wipe_in hj hl]
          · rw [List.getElem?_eq_none (by rw [wipe_length, wipe_length]; omega), List.getElem?_eq_none (by rw [wipe_length]; omega)]
        · rw [wipe_get hj]
      have e14 := e13.trans e4
      -- the slots of the frame itself are as they were
      have home : ∀ {G H M}, Same G1 G → Sim K G H p4 M s4 → Sim K G H p M s := fun {G H M} eg Sx =>
        ⟨Sx.same, fun j d hd => by
          obtain ⟨v, q1, q2⟩ := S1.env j d hd
          exact ⟨v, q1, Rep.mono eg _ _ q2⟩, S1.len, Sx.mem⟩
      refine ⟨ww, ht DW0 G4 H4 p4 M4 s4 _ _ (w0 _) S4 h4 fun G5 H5 M5 b e5 S5 h5 => ?_⟩
      have e15 := e14.trans e5
      cases b with
      | false =>
        rw [if_neg Bool.false_ne_true] at h5 ⊢
        exact ⟨G5, M5, e15, home e15 S5, h5⟩
      | true =>
        rw [if_pos rfl] at h5 ⊢
        refine he DW0 G5 H5 p4 M5 s4 _ _ (w0 _) S5 h5 fun G6 H6 M6 d v e6 S6 r6 h6 => ?_
        have e16 := e15.trans e6
        split at h6
        · next acc em =>
          obtain ⟨hl, h6⟩ := h6
          obtain ⟨gn, vs, c1, c2, c3⟩ := S6.mem _ _ em
          refine ⟨vs, c1, by rw [c2.length, sizeLine_eq]; omega, G6, _, e16, (home e16 S6).put (mo := .lst (acc ++ [d])) gn ⟨_, upd_same, RepL.append c2 (RepL.cons r6 rfl), ?_⟩, h6⟩
          rw [List.length_append, c2.length, sizeLine_eq]
          simp
          omega
        · exact h6.elim
    · have e : i = ds.length := by omega
      subst e
      rw [List.drop_length] at h2
      obtain ⟨st, h2⟩ := h2
      refine .inl ⟨F.stop G' H2 p M' s e2 S2 st, ?_⟩
      split at h2
      · next acc em =>
        cases m with
        | true =>
          rw [if_pos rfl] at h2
          exact k G' H2 M' (.ref a) _ (e1.trans e2) S2 rfl h2
        | false =>
          rw [if_neg Bool.false_ne_true] at h2
          obtain ⟨G3, e3, S3, r3⟩ := S2.freeze em
          exact k G3 H2 _ _ _ ((e1.trans e2).trans e3) S3 r3 h2
      · exact h2.elim
section
variable {X : Cx} {W : WX} {elt tg iter : Expr} {ifs : List Expr} {scope : Scope} {own : List (Str × Nat)} {pos : Pos} {wi : TI} {qi : DTI} {g : TG} {qg : DTG} {tt : TT} {qt : DTT} {te : TE} {qe : DTE}
theorem q_lc (m : Bool) (hc : X.calm = true) (hN : X.N.Nodup) (hi : QI X W tg iter wi qi) (ok : BlkOk X.N X.env.scope scope own)
    (hg : ∀ (s : Shared) (H : Hp) (C : Addr) (cl : List (Str × Addr)) (fp : List Addr), QGi (X.blk s H scope (compEnvC scope cl C X.env) fp) W0 (own.map (·.2)) tg g qg)
    (ht : ∀ (s : Shared) (H : Hp) (C : Addr) (cl : List (Str × Addr)) (fp : List Addr), QTs (X.blk s H scope (compEnvC scope cl C X.env) fp) W0 ifs tt qt)
    (he : ∀ (s : Shared) (H : Hp) (C : Addr) (cl : List (Str × Addr)) (fp : List Addr), QE (X.blk s H scope (compEnvC scope cl C X.env) fp) W0 elt te qe) (hs : ∀ x, foldedSetIterable iter X.env x = pure x := by intro _; rfl) :
    QE X W (.ListComp elt [⟨tg, iter, ifs, 0⟩] scope pos) (tLc wi g tt te (own.map (·.2))) (qLc m qi qg qt qe (own.map (·.2))) :=
  ⟨pe_lc hc hN hi.pe ok (fun s H C cl fp => (hg s H C cl fp).pe) (fun s H C cl fp => (ht s H C cl fp).pe) (fun s H C cl fp => (he s H C cl fp).pe) hs,
    ref_lc hi.rf (hg X.s_0 X.H_0 0 [] []).rf (ht X.s_0 X.H_0 0 [] []).rf (he X.s_0 X.H_0 0 [] []).rf⟩
end
end DL
namespace DL
open PySem L2
def toSp (K : PySem.W.Frag) (P : DSp) : Sp := fun vs H Q E => ∃ (G : Hp) (ds : List D) (M : Mst) (Qd : DK) (Ed : DX → Mst → Prop), Same G H ∧ RepL K G ds vs ∧ MemOk K G H M ∧ P ds M Qd Ed ∧
  (∀ G' H' v d M', Same G G' → Same G' H' → Rep K G' d v → MemOk K G' H' M' → Qd d M' → Q v H') ∧
  (∀ G' H' x cls dx M', Same G G' → Same G' H' → RepX K G' x cls dx → MemOk K G' H' M' → Ed x M' → E cls dx H')
def startD (N : List Str) (ds : List D) : Rho := ds.map some ++ List.replicate (N.length - ds.length) none
section
variable {P : Program} {w : World} {K : PySem.W.Frag} {mg : Str → Option Value} {base : Heap}
theorem start_sim {G H : Hp} {ds : List D} {vs : List V} {M : Mst} {N : List Str} (e : Same G H) (r : RepL K G ds vs) (hm : MemOk K G H M) : Sim K G H (startD N ds) M (L2.start N vs) := by
  have hl := r.length
  refine ⟨e, fun i d h => ?_, by simp [startD, L2.start, hl], hm⟩
  unfold startD at h
  unfold L2.start
  by_cases hi : i < ds.length
  · rw [List.getElem?_append_left (by simpa using hi)] at h
    rw [List.getElem?_append_left (by simp [hl, hi])]
    simp only [List.getElem?_map, Option.map_eq_some_iff, Option.some.injEq] at h
    obtain ⟨d', h1, rfl⟩ := h
    obtain ⟨v, h2, h3⟩ := r.get h1
    exact ⟨v, by simp [h2], h3⟩
  · rw [List.getElem?_append_right (by simpa using hi)] at h
    rw [List.getElem?_replicate] at h
    split at h <;> cases h
/-- THE RULE for a def: its body's reading by data -/
theorem fn_ok {x qual : Str} {st : Stmt} {f : Addr} {fd : FuncData} {N ps : List Str} {k : Nat} {p : DSp} (F : Fun K x qual st f fd) (S : FnScope N ps (defScope st)) (len : ∀ ds M Q E, p ds M Q E → ds.length = ps.length)
    (hbody : ∀ (cdv : Value) (A : Around) (outer : List Env) (s : Shared) (H : Hp) (E : XK), Room k (A.deeper (PyProof.Rows.envOfC qual (defScope st) s.heap.objs.size f cdv)) →
      Takes (cxOf (L2.CX P w) P w K mg base N qual (defScope st) f cdv A outer s H E) (fun cls d _ H => E cls d H) →
      PassesOwn (model P w) (cxOf (L2.CX P w) P w K mg base N qual (defScope st) f cdv A outer s H E).A (cxOf (L2.CX P w) P w K mg base N qual (defScope st) f cdv A outer s H E).env (cxOf (L2.CX P w) P w K mg base N qual (defScope st) f cdv A outer s H E).xe →
      ∃ t q, QSs (cxOf (L2.CX P w) P w K mg base N qual (defScope st) f cdv A outer s H E) (fun cls d _ H => E cls d H) (defBody st) t q ∧
        ∀ ds M Q Ed, p ds M Q Ed → q (fun x _ M => Ed x M) { nx := fun _ M => Q .non M, rt := Q } (startD N ds) M) : FnOk P w K mg base (L2.CX P w) (k + 1) f fd ps (toSp K p) := by
  refine F.okX S (fun vs H Q E h => ?_) (fun cdv A outer s H vs Q E hr h => ?_)
  · obtain ⟨G, ds, M, Qd, Ed, _, r, _, hp, _⟩ := h
    rw [r.length]; exact len _ _ _ _ hp
  · obtain ⟨G, ds, M, Qd, Ed, e, r, hm, hp, kq, ke⟩ := h
    obtain ⟨t, q, hq, hs⟩ := hbody cdv A outer s H E hr (takes_of rfl rfl rfl rfl) (passes_of rfl)
    refine ⟨t, hq.pe, hq.rf (fun x _ M => Ed x M) G H (startD N ds) M (L2.start N vs) _ _ (fun G' H' p' M' s' x cls dx e1 S1 r1 h1 => ke G' H' x cls dx M' e1 S1.same r1 S1.mem h1) (start_sim e r hm) (hs ds M Qd Ed hp)
      ⟨fun G' H' p' M' s' e1 S1 h1 => kq G' H' .non .non M' e1 S1.same rfl S1.mem h1, fun G' H' p' M' s' d v e1 S1 r1 h1 => kq G' H' v d M' e1 S1.same r1 S1.mem h1, fun _ _ _ _ _ _ _ h => h.elim, fun _ _ _ _ _ _ _ h => h.elim⟩⟩
end
@[simp] def qCall (P : DSp) (dds : List D) (qa : DTA) : DTE := fun DW p M Q => qa DW p M fun ds M1 => P (ds ++ dds) M1 Q fun x M2 => DW x p M2
section
variable {X : Cx} {W : WX} {k : Nat} {f : Addr} {fd : FuncData} {ps : List Str} {P : DSp} {dds : List D} {dvs : List V} {ds : List Value} {x : Str} {p pos : Pos} {e : Expr} {es : List Expr} {t : TA} {q : DTA}
/-- what a callee's promise gives at a call -/
theorem toSp_at {K : PySem.W.Frag} {DW : DWt} {G H : Hp} {p : Rho} {M : Mst} {s : L2.St} {ds : List D} {vs : List V} {Q : DK} {Q' : VK} (hw : WLink K G DW W) (S : Sim K G H p M s) (r : RepL K G ds vs) (h : P ds M Q fun x M2 => DW x p M2)
    (k : ∀ G' H' M' d v, Same G G' → Sim K G' H' p M' s → Rep K G' d v → Q d M' → Q' v H') : toSp K P vs H Q' (WE W s) := by
  have up : ∀ {G' H' M'}, Same G G' → Same G' H' → MemOk K G' H' M' → Sim K G' H' p M' s := fun {G' H' M'} e1 e2 hm => ⟨e2, fun i d hd => by
    obtain ⟨v, h1, h2⟩ := S.env i d hd
    exact ⟨v, h1, Rep.mono e1 _ _ h2⟩, S.len, hm⟩
  exact ⟨G, ds, M, Q, _, S.same, r, S.mem, h, fun G' H' v d M' e1 e2 r1 hm q => k G' H' M' d v e1 (up e1 e2 hm) r1 q, fun G' H' x cls dx M' e1 e2 r1 hm q => hw G' H' p M' s x cls dx e1 (up e1 e2 hm) r1 q⟩
theorem ref_call {K : PySem.W.Frag} (ha : RefA K W t q) (hd : ∀ G, RepL K G dds dvs) : RefE K W (tCallSD (toSp K P) dvs (fun s => WE W s) t) (qCall P dds q) :=
  fun DW G H p M s Q Q' hw S h k => ha DW G H p M s _ _ hw S h fun G1 H1 M1 as vs e1 S1 r1 h1 => toSp_at (hw.mono e1) S1 (RepL.append r1 (hd _)) h1 fun G' H' M' d v e2 => k G' H' M' d v (e1.trans e2)
/-- f(e, ..), a def of the module -/
theorem q_call (F : FnOk X.prog X.w X.K X.mg X.base (L2.CX X.prog X.w) k f fd ps (toSp X.K P)) (hr : Room k X.A) (tk : Takes X W) (hg : Gl X x) (hm : X.mg x = some (.ref f)) (hk : PySem.W.keepIn X.K (.ref f) = true) (hb : Binds X.K fd ps ds) (hd : Vals dvs ds) (hdd : ∀ G, RepL X.K G dds dvs)
    (ha : QA X W (e :: es) t q) (hdb : (x == ("__debug__" : Str)) = false := by decide) (he : starEach (e :: es) X.env = (false, eval e X.env) :: starEach es X.env := by rfl) (hpl : (backTo pos (starEach es X.env)).any (·.1) = false := by rfl) :
    QE X W (.Call (.Name x p) (e :: es) [] pos) (tCallSD (toSp X.K P) dvs (fun s => WE W s) t) (qCall P dds q) :=
  ⟨pe_callSD F hr hg hm hk hb hd (fun σ => passAt tk σ) ha.pe hdb he hpl, ref_call ha.rf hdd⟩
end
def tyOk (T : String) : D → Bool
  | .lst _ => T == "list"
  | .str _ => T == "str"
  | _ => false
theorem tyV_of {K : PySem.W.Frag} {G H : Hp} {p : Rho} {M : Mst} {s : L2.St} {T : String} {x : D} {v : V} (S : Sim K G H p M s) (r : Rep K G x v) (h : tyOk T (res M x) = true) : tyV K T v H := by
  cases e : res M x with
  | lst ds =>
    rw [e] at h
    obtain ⟨a, vs, rfl, g1, g2, g3⟩ := as_lst S r e
    exact .inl ⟨by simpa [tyOk] using h, vs, .inl (.inl g1)⟩
  | str z =>
    rw [e] at h
    obtain ⟨rfl, _⟩ := as_str r e
    show T = "str"
    simpa [tyOk] using h
  | _ => rw [e] at h; cases h
abbrev DMt := D → List D → Mst → DK → Prop
def RefM (K : PySem.W.Frag) (r : V → List V → Hp → VK → Prop) (q : DMt) : Prop := ∀ G H p M s x v ds vs (Q : DK) (Q' : VK), Sim K G H p M s → Rep K G x v → RepL K G ds vs → q x ds M Q →
  (∀ G' H' M' d w, Same G G' → Sim K G' H' p M' s → Rep K G' d w → Q d M' → Q' w H') → r v vs H Q'
structure QMt (X : Cx) (id : String) (r : V → List V → Hp → VK → Prop) (q : DMt) : Prop where
  op : MtR X id r
  rf : RefM X.K r q
def qBM (T : String) (m : DMt) (qo : DTE) (qa : DTA) : DTE := fun DW p M Q => qo DW p M fun x M1 => tyOk T (res M1 x) = true ∧ qa DW p M1 fun ds M2 => m x ds M2 Q
section
variable {X : Cx} {W : WX} {o e : Expr} {es : List Expr} {to : TE} {qo : DTE} {t : TA} {qa : DTA} {name : Str} {apos cpos : Pos} {T id : String} {r : V → List V → Hp → VK → Prop} {m : DMt}
theorem q_bm (pa : PlainAttrs T) (slot : Slot T name id) (hty : typeOf (.builtin id) = pure (.type "method_descriptor")) (hm : QMt X id r m) (ho : QE X W o to qo) (ha : QA X W (e :: es) t qa)
    (hbase : attributeBase o name X.env (eval o X.env) = eval o X.env := by rfl)
    (hfew : ((backTo cpos (starEach (e :: es) X.env)).all (fun x => !x.1) && (backToKw cpos (keywordEach [] X.env)).all (fun x => x.1.isSome)
      && decide ((e :: es).length + ([] : List Keyword).length + (if ([] : List Keyword).isEmpty then 0 else 1) < 30)) = true := by rfl)
    (hline : (apos.endLine == cpos.line) = true := by rfl) (hs : starEach (e :: es) X.env = (false, eval e X.env) :: starEach es X.env := by rfl) (hplain : (backTo cpos (starEach es X.env)).any (·.1) = false := by rfl) :
    QE X W (.Call (.Attribute o name apos) (e :: es) [] cpos) (tBM X.K T r to t) (qBM T m qo qa) :=
  ⟨pe_bm pa slot hty hm.op ho.pe ha.pe hbase hfew hline hs hplain, fun DW G H p M s Q Q' hw S h k => ho.rf DW G H p M s _ _ hw S h fun G1 H1 M1 x v e1 S1 r1 ⟨ty, h1⟩ => ⟨tyV_of S1 r1 ty,
    ha.rf DW G1 H1 p M1 s _ _ (hw.mono e1) S1 h1 fun G2 H2 M2 ds vs e2 S2 r2 h2 => hm.rf G2 H2 p M2 s x v ds vs Q Q' S2 (Rep.mono e2 _ _ r1) r2 h2 fun G' H' M' d w e3 => k G' H' M' d w ((e1.trans e2).trans e3)⟩⟩
end
def mApp : DMt := fun x ds M Q => match x, ds with
  | .ref a, [d] => match M a with
    | some (.lst es) => es.length < 100000 ∧ Q .non (put M a (.lst (es ++ [d])))
    | _ => False
  | _, _ => False
section
variable {X : Cx}
theorem m_append : QMt X "list.append" rAppend mApp := ⟨mt_append, fun G H p M s x v ds vs Q Q' S r1 r2 h k => by
  unfold mApp at h
  split at h
  · next a d =>
    cases r1
    obtain ⟨u, rfl, r3⟩ := repL1 r2
    split at h
    · next es em =>
      obtain ⟨hl, h⟩ := h
      obtain ⟨gn, us, g1, g2, g3⟩ := S.mem _ _ em
      have e1 := g2.length
      have z := sizeLine_eq
      refine ⟨a, us, u, rfl, rfl, g1, by omega, k G _ _ .non _ (Same.refl _) (S.put (mo := .lst (es ++ [d])) gn ⟨_, upd_same, RepL.append g2 (RepL.cons r3 rfl), ?_⟩) rfl h⟩
      rw [List.length_append]; simp; omega
    · exact h.elim
  · exact h.elim⟩
end
end DL
namespace DL
open PySem L2
def frz (i : Nat) (p : Rho) (M : Mst) (R : Rho → Mst → Prop) : Prop := match p[i]? with
  | some (some (.ref a)) => match M a with
    | some (.lst ds) => R (p.set i (some (.lst ds))) (del M a)
    | some (.dK kvs) => R (p.set i (some (.dct (kvs.map (·.1)) (kvs.map (·.2))))) (del M a)
    | some (.ins C fs) => R (p.set i (some (.ins C (fs.map (·.1)) (fs.map (·.2))))) (del M a)
    | _ => False
  | _ => False
def qFrz (i : Nat) (q : DTS) : DTS := fun DW DE p M => frz i p M (q DW DE)
theorem Sim.slot {K : PySem.W.Frag} {G H : Hp} {p : Rho} {M : Mst} {s : L2.St} {i : Nat} {a : Addr} {d : D} (S : Sim K G H p M s) (h : ∃ v, s[i]? = some (some v) ∧ v = .ref a) (r : Rep K G d (.ref a)) : Sim K G H (p.set i (some d)) M s := by
  obtain ⟨v, h1, rfl⟩ := h
  refine ⟨S.same, fun j e h => ?_, by rw [List.length_set]; exact S.len, S.mem⟩
  rw [List.getElem?_set] at h
  split at h
  · next z =>
    subst z
    split at h
    · cases h; exact ⟨_, h1, r⟩
    · cases h
  · exact S.env j e h
theorem qs_frz {X : Cx} {W : WX} {st : Stmt} {t : TS} {q : DTS} (i : Nat) (h : QS X W st t q) : QS X W st t (qFrz i q) := ⟨h.pe, fun DW G H p M s DE E hw S hq k => by
  unfold qFrz frz at hq
  split at hq
  · next a ei =>
    obtain ⟨v, s1, r1⟩ := S.env i _ ei
    have hv : ∃ v, s[i]? = some (some v) ∧ v = .ref a := ⟨v, s1, r1⟩
    split at hq
    · next ds em =>
      obtain ⟨G', e, S', r⟩ := S.freeze em
      exact h.rf DW G' H _ _ s DE E (hw.mono e) (S'.slot hv r) hq (k.mono e)
    · next kvs em =>
      obtain ⟨G', e, S', r⟩ := S.freezeD em
      exact h.rf DW G' H _ _ s DE E (hw.mono e) (S'.slot hv r) hq (k.mono e)
    · next C fs em =>
      obtain ⟨G', e, S', r⟩ := S.freezeI em
      exact h.rf DW G' H _ _ s DE E (hw.mono e) (S'.slot hv r) hq (k.mono e)
    · exact hq.elim
  · exact hq.elim⟩
def enumD : Nat → List D → List D
  | _, [] => []
  | n, d :: ds => .tup [.int n, d] :: enumD (n + 1) ds
@[simp] theorem enumD_length : ∀ (n : Nat) (ds : List D), (enumD n ds).length = ds.length
  | _, [] => rfl
  | n, d :: ds => by simp [enumD, enumD_length]
def zipD : List D → List D → List D
  | a :: as, b :: bs => .tup [a, b] :: zipD as bs
  | _, _ => []
theorem zipD_get : ∀ (as bs : List D) (i : Nat), (zipD as bs)[i]? = match as[i]?, bs[i]? with | some a, some b => some (.tup [a, b]) | _, _ => none
  | a :: as, b :: bs, 0 => by simp [zipD]
  | a :: as, b :: bs, i + 1 => by simp [zipD, zipD_get as bs i]
  | [], bs, i => by simp [zipD]
  | a :: as, [], i => by simp [zipD]
@[simp] theorem zipD_length : ∀ (as bs : List D), (zipD as bs).length = min as.length bs.length
  | a :: as, b :: bs => by simp [zipD, zipD_length as bs]
  | [], bs => by simp [zipD]
  | a :: as, [] => by simp [zipD]
/-- the things of a list, frozen or not, and what keeps them -/
def lstAt (M : Mst) : D → Option (List D × (Mst → Prop))
  | .lst ds => some (ds, always)
  | .ref a => match M a with
    | some (.lst ds) => some (ds, holds a (.lst ds))
    | _ => none
  | _ => none
theorem lstAt_of {K : PySem.W.Frag} {G H : Hp} {p : Rho} {M : Mst} {s : L2.St} {d : D} {v : V} {ds : List D} {Sty : Mst → Prop} (S : Sim K G H p M s) (r : Rep K G d v) (h : lstAt M d = some (ds, Sty)) : Sty M ∧ ∃ a, v = .ref a ∧ ds.length ≤ sizeLine ∧
    ∀ G' H' p' M' s', Same G G' → Sim K G' H' p' M' s' → Sty M' → ∃ us, SqL K H' a us ∧ RepL K G' ds us := by
  unfold lstAt at h
  split at h
  · cases h
    obtain ⟨a, vs, rfl, g1, g2, g3⟩ := r
    exact ⟨trivial, a, rfl, by rw [← g2.length]; exact g3, fun G' H' p' M' s' e S' _ => ⟨vs, .inl (.inl (S'.same _ _ (e _ _ g1))), RepL.mono e _ _ g2⟩⟩
  · next a =>
    split at h
    · next ds' em =>
      cases h
      cases r
      obtain ⟨gn, vs, g1, g2, g3⟩ := S.mem _ _ em
      refine ⟨em, a, rfl, by rw [← g2.length]; exact g3, fun G' H' p' M' s' e S' st => ?_⟩
      obtain ⟨_, us, c1, c2, _⟩ := S'.mem _ _ st
      exact ⟨us, .inl (.inl c1), c2⟩
    · cases h
  · cases h
theorem get_lt {α : Type} {xs : List α} {i : Nat} (h : i < xs.length) : ∃ x, xs[i]? = some x := ⟨_, List.getElem?_eq_getElem h⟩
def qiZip (qa : DTA) : DTI := fun DW p M R => qa DW p M fun ds M1 => match ds with
  | [x, y] => match lstAt M1 x, lstAt M1 y with
    | some (es, St1), some (fs, St2) => R (zipD es fs) (fun M => St1 M ∧ St2 M) M1
    | _, _ => False
  | _ => False
section
variable {X : Cx} {W : WX} {e e2 : Expr} {ta : TA} {qa : DTA} {p pos tpos : Pos} {elts : List Expr} {kk : Nat}
theorem qi_zip (hg : Gl X "zip") (hm : X.mg "zip" = none) (ha : QA X W [e, e2] ta qa)
    (hs : starEach [e, e2] X.env = (false, eval e X.env) :: starEach [e2] X.env := by rfl) (hpl : (backTo pos (starEach [e2] X.env)).any (·.1) = false := by rfl) :
    QI X W (.Tuple elts kk tpos) (.Call (.Name "zip" p) [e, e2] [] pos) (iZip X.K ta) (qiZip qa) :=
  ⟨pi_zip hg hm ha.pe hs hpl, fun DW G H p M s R R' hw S h k => ha.rf DW G H p M s _ _ hw S h fun G1 H1 M1 ds vs e1 S1 r1 h1 => by
    split at h1
    · next x y =>
      obtain ⟨v, u, rfl, r2, r3⟩ := repL2 r1
      split at h1
      · next es St1 fs St2 el1 el2 =>
        obtain ⟨hst1, a, rfl, hlen1, lk1⟩ := lstAt_of S1 r2 el1
        obtain ⟨hst2, b, rfl, hlen2, lk2⟩ := lstAt_of S1 r3 el2
        obtain ⟨us, u1, _⟩ := lk1 G1 H1 p M1 s (Same.refl _) S1 hst1
        obtain ⟨ws, w1, _⟩ := lk2 G1 H1 p M1 s (Same.refl _) S1 hst2
        refine ⟨a, b, us, ws, rfl, u1, w1, k G1 H1 M1 _ _ _ e1 S1 ⟨fun G' H p M s i e S st hi => ?_, fun G' H p M s i x H' e S st y d hd => ?_, fun G' H p M s e S st => ?_⟩ (by rw [zipD_length]; omega) h1⟩
        · obtain ⟨us, c1, c2⟩ := lk1 G' H p M s e S st.1
          obtain ⟨ws, d1, d2⟩ := lk2 G' H p M s e S st.2
          rw [zipD_length] at hi
          obtain ⟨x, hx⟩ := get_lt (xs := us) (i := i) (by rw [c2.length]; omega)
          obtain ⟨y, hy⟩ := get_lt (xs := ws) (i := i) (by rw [d2.length]; omega)
          exact ⟨us, ws, x, y, c1, d1, hx, hy⟩
        · obtain ⟨us, c1, c2⟩ := lk1 G' H p M s e S st.1
          obtain ⟨ws, d1, d2⟩ := lk2 G' H p M s e S st.2
          obtain ⟨T, x', y', rfl, hT, rfl, y1, y2⟩ := y
          rw [zipD_get] at hd
          split at hd
          · next d' d'' ed1 ed2 =>
            cases hd
            obtain ⟨w, w1, w2⟩ := c2.get ed1
            rw [y1 us c1] at w1; cases w1
            obtain ⟨w, w1, w3⟩ := d2.get ed2
            rw [y2 ws d1] at w1; cases w1
            obtain ⟨e2, S2⟩ := S.made (o := .tup [x', y']) hT
            exact ⟨_, e2, S2, T, _, rfl, upd_same, RepL.mono e2 _ _ (RepL.cons w2 (RepL.cons w3 rfl)), sz1000 (by simp)⟩
          · cases hd
        · obtain ⟨us, c1, c2⟩ := lk1 G' H p M s e S st.1
          obtain ⟨ws, d1, d2⟩ := lk2 G' H p M s e S st.2
          refine ⟨us, ws, c1, d1, ?_⟩
          rw [zipD_length, c2.length, d2.length]; omega
      · exact h1.elim
    · exact h1.elim⟩
end
def intsL : List D → Option (List Int)
  | [] => some []
  | .int i :: ds => match intsL ds with
    | some is => some (i :: is)
    | none => none
  | _ :: _ => none
@[simp] theorem intsL_map : ∀ ns : List Int, intsL (ns.map D.int) = some ns
  | [] => rfl
  | n :: ns => by simp [intsL, intsL_map ns]
/-- set(xs), fewer than 64 whole numbers -/
def rSetL (K : PySem.W.Frag) (w : World) : List V → Hp → VK → Prop := fun vs H Q => ∃ (a : Addr) (ns : List Int), vs = [.ref a] ∧ SqL K H a (ns.map V.int) ∧ ns.length < 64 ∧ ∀ p c, H p = none → c ≤ ns.length → Q (.ref p) (upd H p (SetO w p (fun j => decide (j ∈ ns)) c))
theorem sim_laid {K : PySem.W.Frag} {G H : Hp} {p : Rho} {M : Mst} {s : L2.St} {a : Addr} {o : HO} (S : Sim K G H p M s) (hn : H a = none) : Sim K G (upd H a o) p M s := by
  refine ⟨fun b u q => ?_, S.env, S.len, fun b u q => ⟨(S.mem b u q).1, (S.mem b u q).2.mono (Same.refl G) ?_ (.refl G)⟩⟩
  · rw [upd_ne (ne_of_none q (S.same.free hn))]; exact S.same b u q
  · obtain ⟨o', ho⟩ := (S.mem b u q).2.there
    exact upd_ne (ne_of_none ho hn)
end DL
namespace DL
open PySem L2
/-- a def of the module: where it stands, what it is -/
structure FnAt (K : PySem.W.Frag) (mg : Str → Option Value) (x : Str) (st : Stmt) (ps : List Str) where
  f : Addr
  fd : FuncData
  g : mg x = some (.ref f)
  F : Fun K x x st f fd
  b : Binds K fd ps []
def spLaw : DSp := fun ds M Q _ => ∃ ns : List Int, ds = [.scr ns] ∧ ns.length ≤ 63 ∧ (∀ a, M a = none) ∧ ∀ M', Q (.bl true) M'
theorem walk {l : PySem.W.OpenLaw} {q : Program} {loose : List Str} {XP : (Str → Option Value) → Heap → Prop} {YP : World → Heap → Prop} {d : DefRec} {K : Params → PySem.W.Frag} {k : Nat} (hk : k ≤ 200) (hn : l.most = some 63) (hdf : d.params.defaults = [])
    (hY : ∀ (w : World) (h : Heap), YP w h → (K w.params).In h)
    (F : ∀ (w : World) (mg : Str → Option Value) (fa : Addr) (h : Heap), (K w.params).In h → h.Ns mainGlobals mg → mg d.name = some (.ref fa) →
      ∃ fd : FuncData, (∀ (s : Shared) (u : Value), BindsTo s fd ⟨[u], []⟩ [("_law_script", u)]) ∧ ∀ base : Heap, (K w.params).In base → base.Ns mainGlobals mg →
        FnOk l.prog w (K w.params) mg base (L2.CX l.prog w) k fa fd ["_law_script"] (toSp (K w.params) spLaw)) :
    PySem.W.WalkO q loose XP YP l.row.toRowW d [] (fun f vs => PySem.call f vs) :=
  L2.walk_of (n := 63) (k := k) (x := "_law_script") (CX := fun w => L2.CX l.prog w) (sp := fun w => toSp (K w.params) spLaw) hn (by decide) hdf
    ⟨rfl, by show 1 + 300 + 3 * k + 5 < 1000; omega, by show 4 + 16 * k + 200 < 9900; omega⟩ hY F
    (fun w H a ns hl _ hS => ⟨H, [.scr ns], fun _ => none, fun d _ => d = .bl true, fun _ _ => False, Same.refl _, RepL.cons ⟨a, rfl, hS, hl⟩ rfl, fun _ _ h => (by cases h), ⟨ns, rfl, hl, fun _ => rfl, fun _ => rfl⟩,
      fun G' H' v d M' _ _ r _ e => (by subst e; exact r), fun _ _ _ _ _ _ _ _ _ _ h => h.elim⟩) fun w H s e s' z => by
    obtain ⟨a, B, H', cls, d, _, _, _, _, _, _, _, h⟩ := z
    exact h
end DL
namespace DL
open PySem L2
abbrev retE (Q : DK) : DEnds := { nx := fun _ M => Q .non M, rt := Q }
section
variable {M : Mst} {Q : DK} {a : Addr} {ds : List D} {i : Int} {d : D}
theorem atI_0 {α : Type} {x : α} {xs : List α} : atI (x :: xs) 0 = some x := by
  unfold atI ixN; simp
theorem atI_1 {α : Type} {x y : α} {xs : List α} : atI (x :: y :: xs) 1 = some y := by
  unfold atI ixN
  have : (1 : Int) < ((x :: y :: xs).length : Int) := by simp; omega
  simp only [this]; rfl
theorem atI_n {α : Type} {xs : List α} {n : Nat} : atI xs (n : Int) = xs[n]? := by
  unfold atI ixN
  by_cases h : n < xs.length
  · simp [h]
  · have : ¬ ((n : Int) < (xs.length : Int)) := by omega
    simp [this, h]
theorem atI_some {α : Type} {xs : List α} {i : Int} (h0 : 0 ≤ i) (h1 : i < xs.length) : ∃ x, atI xs i = some x ∧ x ∈ xs := by
  obtain ⟨n, rfl⟩ : ∃ n : Nat, i = n := ⟨i.toNat, by omega⟩
  rw [atI_n]
  have : n < xs.length := by omega
  exact ⟨_, List.getElem?_eq_getElem this, List.getElem_mem this⟩
theorem ix_l (h : atI ds i = some d) : dIx (.lst ds) (.int i) M Q = Q d M := by simp [dIx, dgetD, h]
theorem ix_t (h : atI ds i = some d) : dIx (.tup ds) (.int i) M Q = Q d M := by simp [dIx, dgetD, h]
theorem ix_x (h : atI ds i = some d) : dIx (.xtp ds) (.int i) M Q = Q d M := by simp [dIx, dgetD, h]
theorem ix_s {ns : List Int} {n : Int} (h : atI ns i = some n) : dIx (.scr ns) (.int i) M Q = Q (.int n) M := by simp [dIx, dgetD, h]
theorem ix_r (hm : M a = some (.lst ds)) (h : atI ds i = some d) : dIx (.ref a) (.int i) M Q = Q d M := by simp [dIx, dgetD, res, hm, h]
theorem set_l {R : Mst → Prop} {j : Nat} (hm : M a = some (.lst ds)) (h : ixN ds.length i = some j) : dSet (.ref a) (.int i) d M R = R (put M a (.lst (ds.set j d))) := by simp [dSet, hm, h]
theorem len_s {ns : List Int} : dLen [.scr ns] M Q = Q (.int ns.length) M := by simp [dLen]
@[simp] theorem dInt_i {C : Int → Int → Prop} {g : Int → Int → Int} {i j : Int} : dInt C g (.int i) (.int j) M Q = (C i j ∧ Q (.int (g i j)) M) := rfl
@[simp] theorem dInt0_i {g : Int → Int → Int} {i j : Int} : dInt0 g (.int i) (.int j) M Q = Q (.int (g i j)) M := rfl
@[simp] theorem dCmpI_i {g : Int → Int → Bool} {i j : Int} : dCmpI g (.int i) (.int j) M Q = Q (.bl (g i j)) M := rfl
@[simp] theorem dAdd_i {m : Bool} {i j : Int} : dAdd m (.int i) (.int j) M Q = Q (.int (i + j)) M := rfl
@[simp] theorem dAdd_l {m : Bool} {es fs : List D} : dAdd m (.lst es) (.lst fs) M Q = (es.length + fs.length ≤ 100000 ∧ newL m (es ++ fs) M Q) := rfl
@[simp] theorem dAbs_i {i : Int} : dAbs [.int i] M Q = Q (.int (if i < 0 then -i else i)) M := rfl
@[simp] theorem dMax2_i {i j : Int} : dMax2 [.int i, .int j] M Q = Q (.int (if j > i then j else i)) M := rfl
@[simp] theorem dMin2_i {i j : Int} : dMin2 [.int i, .int j] M Q = Q (.int (if j < i then j else i)) M := rfl
@[simp] theorem len_l' : dLen [.lst ds] M Q = Q (.int ds.length) M := by simp [dLen]
@[simp] theorem len_s' {ns : List Int} : dLen [.scr ns] M Q = Q (.int ns.length) M := by simp [dLen]
@[simp] theorem gSub_eq {qo qi : DTE} {d : D} {DW : DWt} {p : Rho} {R : Rho → Mst → Prop} : gSubD qo qi d DW p M R = qo DW p M fun o M1 => qi DW p M1 fun i M2 => dSet o i d M2 fun M3 => R p M3 := rfl
end
section
variable {X : Cx} {W : WX} {pos : Pos}
theorem qs_setN (i : Nat) {x : Str} {e : Expr} {te : TE} {qe : DTE} {pos' : Pos} (hN : X.N.Nodup) (he : QE X W e te qe) (hi : X.N[i]? = some x := by rfl) (hx : Loc X.env.scope x := by first | exact .inl rfl | exact .inr rfl)
    (hs : swapsWith e (some (.Name x pos')) pos.line X.env = pure false := by rfl) (hf : X.fn x = true ∨ X.env.scope.names.lookup x = some .local := by first | exact .inl rfl | exact .inr rfl) :
    QS X W (.Assign [.Name x pos'] e pos) (tAsg te (gName i)) (qAsg qe (gNameD i)) := qs_set (ps_set hN hi hx he.pe hs hf) he.rf
theorem qs_augN (i : Nat) {x : Str} {e : Expr} {te : TE} {qe : DTE} {pos' : Pos} (hN : X.N.Nodup) (he : QE X W e te qe) (hi : X.N[i]? = some x := by rfl) (hx : Loc X.env.scope x := by first | exact .inl rfl | exact .inr rfl)
    (hf : X.fn x = true ∨ X.env.scope.names.lookup x = some .local := by first | exact .inl rfl | exact .inr rfl) : QS X W (.AugAssign (.Name x pos') .Add e pos) (tAug i te rAugX) (qAug i qe dAug) :=
  qs_augX (ps_aug hN hi hx he.pe ip_any hf) he.rf ref_aug
theorem qs_parN (i j : Nat) {x y : Str} {a b : Expr} {ta : TA} {qa : DTA} {px py pt : Pos} {kt k2 pt2} (hc : X.calm = true) (hN : X.N.Nodup) (ha : QA X W [a, b] ta qa) (hi : X.N[i]? = some x := by rfl) (hj : X.N[j]? = some y := by rfl) (hij : i ≠ j := by decide)
    (hx : X.env.scope.names.lookup x = some .local := by rfl) (hy : X.env.scope.names.lookup y = some .local := by rfl)
    (hw : swappedStores [.Tuple [.Name x px, .Name y py] kt pt] (.Tuple [a, b] k2 pt2) X.env = pure (some [x, y]) := by rfl)
    (hs : swapsWithSole [.Tuple [.Name x px, .Name y py] kt pt] (.Tuple [a, b] k2 pt2) pos.line X.env = pure false := by rfl) :
    QS X W (.Assign [.Tuple [.Name x px, .Name y py] kt pt] (.Tuple [a, b] k2 pt2) pos) (tPar i j ta) (qPar i j qa) := qs_par (ps_par hc hN hi hj hij hx hy ha.pe hw hs) ha.rf
theorem qg_nm (i : Nat) {x : Str} {ix : List Nat} (hN : X.N.Nodup) (hi : X.N[i]? = some x := by rfl) (hx : Loc X.env.scope x := by first | exact .inl rfl | exact .inr rfl)
    (hf : X.fn x = true ∨ X.env.scope.names.lookup x = some .local := by first | exact .inl rfl | exact .inr rfl) (hm : i ∈ ix := by decide) : QGi X W ix (.Name x pos) (gName i) (gNameD i) := qg_name (pg_name hN hi hx hf) hm
end
def Sub (M M' : Mst) : Prop := ∀ a o, M a = some o → M' a = some o
theorem Sub.refl (M : Mst) : Sub M M := fun _ _ h => h
theorem Sub.trans {M M1 M2 : Mst} (h : Sub M M1) (g : Sub M1 M2) : Sub M M2 := fun a o e => g a o (h a o e)
theorem Sub.put {M M' : Mst} {a : Addr} {o : MO} (h : Sub M M') (hn : M a = none) : Sub M (put M' a o) := fun b u e => by
  rw [put_ne (fun z => by rw [z, hn] at e; cases e)]; exact h b u e
def upSp (p : DSp) : DSp := fun ds M Q E => ∃ Q0 E0, p ds M Q0 E0 ∧ (∀ d M' M'', Sub M'' M' → Q0 d M'' → Q d M') ∧ ∀ x M' M'', Sub M'' M' → E0 x M'' → E x M'
theorem imp_up {K : PySem.W.Frag} {p : DSp} {vs : List V} {H : Hp} {Q : VK} {E : XK} (h : toSp K p vs H Q E) : toSp K (upSp p) vs H Q E := by
  obtain ⟨G, ds, M, Qd, Ed, e, r, hm, hp, kq, ke⟩ := h
  have ok : ∀ {G' H' M' M''}, Sub M'' M' → MemOk K G' H' M' → MemOk K G' H' M'' := fun hs hm a o e => hm a o (hs a o e)
  exact ⟨G, ds, M, fun d M' => ∃ M'', Sub M'' M' ∧ Qd d M'', fun x M' => ∃ M'', Sub M'' M' ∧ Ed x M'', e, r, hm, ⟨Qd, Ed, hp, fun d M' M'' hs q => ⟨M'', hs, q⟩, fun x M' M'' hs q => ⟨M'', hs, q⟩⟩,
    fun G' H' v d M' e1 e2 r1 hm1 ⟨M'', hs, q⟩ => kq G' H' v d M'' e1 e2 r1 (ok hs hm1) q, fun G' H' x cls dx M' e1 e2 r1 hm1 ⟨M'', hs, q⟩ => ke G' H' x cls dx M'' e1 e2 r1 (ok hs hm1) q⟩
def canE (K : PySem.W.Frag) (W : WX) (q : DTE) : TE := fun s H Q' => ∃ DW G p M Q, WLink K G DW W ∧ Sim K G H p M s ∧ q DW p M Q ∧ ∀ G' H' M' d v, Same G G' → Sim K G' H' p M' s → Rep K G' d v → Q d M' → Q' v H'
def canT (K : PySem.W.Frag) (W : WX) (q : DTT) : TT := fun s H Q' => ∃ DW G p M Q, WLink K G DW W ∧ Sim K G H p M s ∧ q DW p M Q ∧ ∀ G' H' M' b, Same G G' → Sim K G' H' p M' s → Q b M' → Q' b H'
def canG (K : PySem.W.Frag) (W : WX) (ix : List Nat) (q : DTG) : TG := fun v s H Q' => ∃ DW G p M d Q, WLink K G DW W ∧ Sim K G H p M s ∧ Rep K G d v ∧ q d DW p M Q ∧ ∀ G' H' p' M' s', Same G G' → Sim K G' H' p' M' s' → Only ix s s' → Q p' M' → Q' s' H'
section
variable {X : Cx} {W : WX} {elt tg iter : Expr} {ifs : List Expr} {scope : Scope} {own : List (Str × Nat)} {pos : Pos} {wi : TI} {qi : DTI} {qg : DTG} {qt : DTT} {qe : DTE}
theorem QE.can {e : Expr} (h : ∃ t, QE X W e t qe) : QE X W e (canE X.K W qe) qe := by
  obtain ⟨t, h⟩ := h
  exact ⟨⟨fun pins s σ H Q I ⟨DW, G, p, M, Qd, hw, S, hq, k⟩ => h.pe.run pins s σ H Q I (h.rf DW G H p M σ Qd Q hw S hq k)⟩, fun DW G H p M s Q Q' hw S hq k => ⟨DW, G, p, M, Q, hw, S, hq, k⟩⟩
theorem QTs.can {es : List Expr} (h : ∃ t, QTs X W es t qt) : QTs X W es (canT X.K W qt) qt := by
  obtain ⟨t, h⟩ := h
  exact ⟨⟨fun pins s σ H Q I ⟨DW, G, p, M, Qd, hw, S, hq, k⟩ => h.pe.run pins s σ H Q I (h.rf DW G H p M σ Qd Q hw S hq k)⟩, fun DW G H p M s Q Q' hw S hq k => ⟨DW, G, p, M, Q, hw, S, hq, k⟩⟩
theorem QGi.can {ix : List Nat} {e : Expr} (h : ∃ t, QGi X W ix e t qg) : QGi X W ix e (canG X.K W ix qg) qg := by
  obtain ⟨t, h⟩ := h
  exact ⟨⟨fun pins s σ H v u Q I r ⟨DW, G, p, M, d, Qd, hw, S, rd, hq, k⟩ => h.pe.run pins s σ H v u Q I r (h.rf DW G H p M σ d v Qd Q hw S rd hq k)⟩, fun DW G H p M s d v Q Q' hw S rd hq k => ⟨DW, G, p, M, d, Q, hw, S, rd, hq, k⟩⟩
theorem q_lcX (m : Bool) (hc : X.calm = true) (hN : X.N.Nodup) (hi : QI X W tg iter wi qi) (ok : BlkOk X.N X.env.scope scope own)
    (hg : ∀ (s : Shared) (H : Hp) (C : Addr) (cl : List (Str × Addr)) (fp : List Addr), ∃ t, QGi (X.blk s H scope (compEnvC scope cl C X.env) fp) W0 (own.map (·.2)) tg t qg)
    (ht : ∀ (s : Shared) (H : Hp) (C : Addr) (cl : List (Str × Addr)) (fp : List Addr), ∃ t, QTs (X.blk s H scope (compEnvC scope cl C X.env) fp) W0 ifs t qt)
    (he : ∀ (s : Shared) (H : Hp) (C : Addr) (cl : List (Str × Addr)) (fp : List Addr), ∃ t, QE (X.blk s H scope (compEnvC scope cl C X.env) fp) W0 elt t qe) (hs : ∀ x, foldedSetIterable iter X.env x = pure x := by intro _; rfl) :
    QE X W (.ListComp elt [⟨tg, iter, ifs, 0⟩] scope pos) (tLc wi (canG X.K W0 (own.map (·.2)) qg) (canT X.K W0 qt) (canE X.K W0 qe) (own.map (·.2))) (qLc m qi qg qt qe (own.map (·.2))) :=
  q_lc m hc hN hi ok (fun s H C cl fp => QGi.can (hg s H C cl fp)) (fun s H C cl fp => QTs.can (ht s H C cl fp)) (fun s H C cl fp => QE.can (he s H C cl fp)) hs
end
def spTakeL : DSp := fun ds M Q _ => ∃ (b : Addr) (g m n : Int), ds = [.ref b, .int n] ∧ M b = some (.lst [.int g, .int m]) ∧ 0 ≤ g ∧ 0 ≤ m ∧ m < 2147483648 ∧ 0 < n ∧ n < 1073741824 ∧
  ∀ g' m' r : Int, 0 ≤ g' → 0 ≤ m' → m' < 2147483648 → 0 ≤ r → r < n → Q (.int r) (put M b (.lst [.int g', .int m']))
def spTake : DSp := fun ds M Q _ => ∃ (b : Addr) (n : Int), ds = [.ref b, .int n] ∧ M b = some .bag ∧ 0 < n ∧ n < 1073741824 ∧ ∀ r : Int, 0 ≤ r → r < n → Q (.int r) M
def spBagL : DSp := fun ds M Q _ => ∃ (ns : List Int) (i : Int), ds = [.scr ns, .int i] ∧ 0 ≤ i ∧ i < 10000 ∧ ∀ (p : Addr) (g m : Int), M p = none → 0 ≤ g → 0 ≤ m → m < 2147483648 → Q (.ref p) (put M p (.lst [.int g, .int m]))
def spBag : DSp := fun ds M Q _ => ∃ (ns : List Int) (i : Int), ds = [.scr ns, .int i] ∧ 0 ≤ i ∧ i < 10000 ∧ ∀ p : Addr, M p = none → Q (.ref p) (put M p .bag)
theorem cpow_small {i : Int} {j : Nat} (h0 : 0 ≤ i) (h1 : i < 18446744073709551616) (hj : j ≤ 1000000) : CPow i (j : Int) := by
  refine ⟨by omega, by omega, ?_⟩
  have e : (2 : Nat) ^ 64 = 18446744073709551616 := by decide
  omega
theorem mem_bag {K : PySem.W.Frag} {G H : Hp} {M : Mst} {b : Addr} {g m : Int} (hm : MemOk K G H M) (h : M b = some (.lst [.int g, .int m])) (h0 : 0 ≤ g) (h1 : 0 ≤ m) (h2 : m < 2147483648) : MemOk K G H (put M b .bag) := fun a o e => by
  by_cases z : a = b
  · subst z
    rw [put_same] at e; cases e
    obtain ⟨gn, vs, q1, ⟨v, r, rfl, q2, ⟨u, r2, rfl, q3, q4⟩⟩, _⟩ := hm _ _ h
    cases q2; cases q3; cases q4
    exact ⟨gn, g, m, q1, h0, h1, h2⟩
  · rw [put_ne z] at e; exact hm a o e
theorem bag_mem {K : PySem.W.Frag} {G H : Hp} {M : Mst} {b : Addr} (hm : MemOk K G H M) (h : M b = some .bag) : ∃ g m : Int, 0 ≤ g ∧ 0 ≤ m ∧ m < 2147483648 ∧ MemOk K G H (put M b (.lst [.int g, .int m])) := by
  obtain ⟨gn, g, m, q1, q2, q3, q4⟩ := hm _ _ h
  refine ⟨g, m, q2, q3, q4, fun a o e => ?_⟩
  by_cases z : a = b
  · subst z
    rw [put_same] at e; cases e
    exact ⟨gn, _, q1, ⟨_, _, rfl, rfl, _, _, rfl, rfl, rfl⟩, sz1000 (by simp)⟩
  · rw [put_ne z] at e; exact hm a o e
theorem imp_take {K : PySem.W.Frag} {vs : List V} {H : Hp} {Q : VK} {E : XK} (h : toSp K spTake vs H Q E) : toSp K spTakeL vs H Q E := by
  obtain ⟨G, ds, M, Qd, Ed, e, r, hm, ⟨b, n, rfl, hb, h0, h1, k⟩, kq, ke⟩ := h
  obtain ⟨g, m, g1, g2, g3, hm'⟩ := bag_mem hm hb
  refine ⟨G, _, _, fun d M' => ∃ g' m' : Int, M' b = some (.lst [.int g', .int m']) ∧ 0 ≤ g' ∧ 0 ≤ m' ∧ m' < 2147483648 ∧ Qd d (put M' b .bag), Ed, e, r, hm', ⟨b, g, m, n, rfl, put_same, g1, g2, g3, h0, h1, fun g' m' r a1 a2 a3 a4 a5 => ?_⟩, fun G' H' v d M' e1 e2 r1 hm1 q => ?_, fun G' H' x cls dx M' e1 e2 r1 hm1 q => ke G' H' x cls dx M' e1 e2 r1 hm1 q⟩
  · refine ⟨g', m', put_same, a1, a2, a3, ?_⟩
    rw [put_put, put_put, put_id hb]
    exact k r a4 a5
  · obtain ⟨g', m', q0, q1, q2, q3, q4⟩ := q
    exact kq G' H' v d _ e1 e2 r1 (mem_bag hm1 q0 q1 q2 q3) q4
theorem imp_bag {K : PySem.W.Frag} {vs : List V} {H : Hp} {Q : VK} {E : XK} (h : toSp K spBag vs H Q E) : toSp K spBagL vs H Q E := by
  obtain ⟨G, ds, M, Qd, Ed, e, r, hm, ⟨ns, i, rfl, h0, h1, k⟩, kq, ke⟩ := h
  refine ⟨G, _, _, fun d M' => ∃ (b : Addr) (g' m' : Int), d = .ref b ∧ M' b = some (.lst [.int g', .int m']) ∧ 0 ≤ g' ∧ 0 ≤ m' ∧ m' < 2147483648 ∧ Qd d (put M' b .bag), Ed, e, r, hm, ⟨ns, i, rfl, h0, h1, fun p g m hp a1 a2 a3 => ⟨p, g, m, rfl, put_same, a1, a2, a3, ?_⟩⟩, fun G' H' v d M' e1 e2 r1 hm1 q => ?_, fun G' H' x cls dx M' e1 e2 r1 hm1 q => ke G' H' x cls dx M' e1 e2 r1 hm1 q⟩
  · rw [put_put]
    exact k p hp
  · obtain ⟨b, g', m', rfl, q0, q1, q2, q3, q4⟩ := q
    exact kq G' H' v _ _ e1 e2 r1 (mem_bag hm1 q0 q1 q2 q3) q4
end DL
namespace DL
open PySem L2
def qTakeR : DTS :=
  (qSeq (qIfS (qTB (qOp (dCmpI fun i j => decide (j < i)) (qOp dIx (qVar 0) (qC (.int 0))) (qC (.int 0))))
  (qSeq (qAsg (qOp (dInt (fun _ j => 0 < j) fun i j => i % j) (qOp dIx (qVar 0) (qC (.int 0))) (qVar 1)) (gNameD 2))
  (qSeq (qAsg (qOp (dInt CDiv fun i j => i / j) (qOp dIx (qVar 0) (qC (.int 0))) (qVar 1)) (gSubD (qVar 0) (qC (.int 0))))
  (qRet (qVar 2))))
  qNext)
  (qSeq (qAsg (qOp (dInt (fun _ j => 0 < j) fun i j => i % j) (qOp (dAdd false) (qOp (dInt CMul fun i j => i * j) (qOp dIx (qVar 0) (qC (.int 1))) (qC (.int 48271))) (qC (.int 11))) (qC (.int 2147483647))) (gSubD (qVar 0) (qC (.int 1))))
  (qRet (qOp (dInt (fun _ j => 0 < j) fun i j => i % j) (qOp (dInt (fun _ j => 0 < j) fun i j => i % j) (qOp (dInt CPow fun i j => i ^ j.toNat) (qOp (dInt CDiv fun i j => i / j) (qOp dIx (qVar 0) (qC (.int 1))) (qC (.int 8))) (qC (.int 3))) (qC (.int 2147483629))) (qVar 1)))))
theorem take_ok (ds : List D) (M : Mst) (Q : DK) (Ed : DX → Mst → Prop) (h : upSp spTakeL ds M Q Ed) : qTakeR (fun x _ M => Ed x M) (retE Q) (startD ["_law_bag_here", "_law_many", "_law_digit"] ds) M := by
  obtain ⟨Q0, E0, ⟨b, g, m, n, rfl, hb, g0, m0, m1, n0, n1, k0⟩, kq, _⟩ := h
  have k : ∀ g' m' r : Int, 0 ≤ g' → 0 ≤ m' → m' < 2147483648 → 0 ≤ r → r < n → Q (.int r) (put M b (.lst [.int g', .int m'])) := fun g' m' r a1 a2 a3 a4 a5 => kq _ _ _ (Sub.refl _) (k0 g' m' r a1 a2 a3 a4 a5)
  have ix0 : ∀ (g m : Int) (M : Mst) (Q : DK), M b = some (.lst [.int g, .int m]) → dIx (.ref b) (.int 0) M Q = Q (.int g) M := fun g m M Q h => ix_r h atI_0
  have ix1 : ∀ (g m : Int) (M : Mst) (Q : DK), M b = some (.lst [.int g, .int m]) → dIx (.ref b) (.int 1) M Q = Q (.int m) M := fun g m M Q h => ix_r h atI_1
  have st0 : ∀ (g m : Int) (M : Mst) (v : D) (R : Mst → Prop), M b = some (.lst [.int g, .int m]) → dSet (.ref b) (.int 0) v M R = R (put M b (.lst [v, .int m])) := fun g m M v R h => set_l h (j := 0) rfl
  have st1 : ∀ (g m : Int) (M : Mst) (v : D) (R : Mst → Prop), M b = some (.lst [.int g, .int m]) → dSet (.ref b) (.int 1) v M R = R (put M b (.lst [.int g, v])) := fun g m M v R h => set_l h (j := 1) rfl
  simp only [qTakeR, startD, qSeq, qIfS, qTB, qOp, qVar, qC, qAsg, gNameD, gSub_eq, qRet, qNext, retE]
  simp
  rw [ix0 g m M _ hb]
  simp [dCmpI]
  split
  · rw [ix0 g m M _ hb]
    simp [dInt, n0]
    rw [ix0 g m M _ hb]
    simp [CDiv, n0, n1]
    rw [st0 g m M _ _ hb]
    exact k _ _ _ (Int.ediv_nonneg g0 (by omega)) m0 m1 (Int.emod_nonneg _ (by omega)) (Int.emod_lt_of_pos _ n0)
  · have c1 : CMul m 48271 := .inr ⟨by decide, by decide⟩
    rw [ix1 g m M _ hb]
    simp [dInt, dAdd, c1]
    rw [st1 g m M _ _ hb]
    have z0 := Int.emod_nonneg (m * 48271 + 11) (show (2147483647 : Int) ≠ 0 by decide)
    have z1 := Int.emod_lt_of_pos (m * 48271 + 11) (show (0 : Int) < 2147483647 by decide)
    generalize (m * 48271 + 11) % 2147483647 = m2 at z0 z1 ⊢
    rw [ix1 g m2 _ _ put_same]
    have c2 : CDiv m2 8 := ⟨by decide, by decide⟩
    have c3 : CPow (m2 / 8) 3 := cpow_small (j := 3) (by omega) (by omega) (by decide)
    simp [c2, c3, n0]
    exact k _ _ _ g0 z0 (by omega) (Int.emod_nonneg _ (by omega)) (Int.emod_lt_of_pos _ n0)
theorem set3_ (a b c d : D) (x : Int) : [some a, some b, some (.int x), some c, none].set 3 (some d) = [some a, some b, some (.int x), some d, none] := rfl
theorem abs_set (DW : DWt) (DE : DEnds) (a b c d : D) (x : Int) (M : Mst) : qAsg (qCB dAbs (qCons (qVar 2) qNil)) (gNameD 3) DW DE [some a, some b, some (.int x), some c, none] M = DE.nx [some a, some b, some (.int x), some (.int (if x < 0 then -x else x)), none] M := by
  unfold qAsg qCB qCons qNil gNameD qVar
  simp only [List.getElem?_cons_zero, List.getElem?_cons_succ]
  rw [dAbs_i, set3_]
end DL
namespace DL
open PySem L2
inductive All2 {α β : Type} (P : α → β → Prop) : List α → List β → Prop
  | nil : All2 P [] []
  | cons {a b as bs} : P a b → All2 P as bs → All2 P (a :: as) (b :: bs)
theorem All2.length {α β : Type} {P : α → β → Prop} {as : List α} {bs : List β} (h : All2 P as bs) : bs.length = as.length := by
  induction h with
  | nil => rfl
  | cons _ _ ih => simp [ih]
theorem All2.eq_map {α β : Type} {f : α → β} {as : List α} {bs : List β} (h : All2 (fun a b => b = f a) as bs) : bs = as.map f := by
  induction h with
  | nil => rfl
  | cons h _ ih => rw [h, ih]; rfl
theorem All2.get {α β : Type} {P : α → β → Prop} {as : List α} {bs : List β} (h : All2 P as bs) : ∀ (i : Nat) (a : α), as[i]? = some a → ∃ b, bs[i]? = some b ∧ P a b := by
  induction h with
  | nil => intro i a e; simp at e
  | cons h _ ih =>
    intro i a e
    cases i with
    | zero => simp at e; subst e; exact ⟨_, rfl, h⟩
    | succ i => simp at e; obtain ⟨b, h1, h2⟩ := ih i a e; exact ⟨b, by simpa using h1, h2⟩
theorem compL_rel {m : Bool} {Sty : Mst → Prop} {g : DTG} {tt : DTT} {te : DTE} {ix : List Nat} {a : Addr} {p : Rho} {Q : DK} {M : Mst} (hm : M a = none) (P : D → Option D → Prop) (hS : ∀ acc, Sty (put M a (.lst acc))) :
    ∀ (ds acc : List D), acc.length + ds.length ≤ 100000 →
      (∀ d ∈ ds, ∀ (acc : List D) (R : Option D → Mst → Prop), (∀ o, P d o → R o (put M a (.lst acc))) → g d DW0 (wipeD p ix) (put M a (.lst acc)) fun p2 M2 => tt DW0 p2 M2 fun b M3 => if b = true then te DW0 p2 M3 fun y M4 => R (some y) M4 else R none M3) →
      (∀ os : List (Option D), All2 P ds os → if m = true then Q (.ref a) (put M a (.lst (acc ++ os.filterMap id))) else Q (.lst (acc ++ os.filterMap id)) M) → compL m Sty g tt te ix a p Q ds (put M a (.lst acc))
  | [], acc, _, _, fin => by
    have := fin [] .nil
    refine ⟨hS acc, ?_⟩
    rw [put_same]
    simp only [List.filterMap_nil, List.append_nil] at this
    cases m with
    | true => exact this
    | false =>
      rw [if_neg Bool.false_ne_true] at this
      show (if false = true then Q (.ref a) (put M a (.lst acc)) else Q (.lst acc) (del (put M a (.lst acc)) a))
      rw [if_neg Bool.false_ne_true, del_put hm]; exact this
  | d :: ds, acc, hl, step, fin => by
    refine ⟨hS acc, ?_⟩
    simp only [List.length_cons] at hl
    have ih := compL_rel (m := m) (Sty := Sty) (g := g) (tt := tt) (te := te) (ix := ix) (p := p) (Q := Q) hm P hS ds
    refine step d (List.mem_cons_self ..) acc (fun o M' => match o with
      | some y => (match M' a with
        | some (.lst acc) => acc.length < 100000 ∧ compL m Sty g tt te ix a p Q ds (put M' a (.lst (acc ++ [y])))
        | _ => False)
      | none => compL m Sty g tt te ix a p Q ds M') fun o ho => ?_
    cases o with
    | some y =>
      simp only [put_same, put_put]
      refine ⟨by omega, ih (acc ++ [y]) (by simp; omega) (fun d hd => step d (List.mem_cons_of_mem _ hd)) fun os hos => ?_⟩
      have := fin (some y :: os) (.cons ho hos)
      simpa [List.filterMap_cons] using this
    | none =>
      refine ih acc (by omega) (fun d hd => step d (List.mem_cons_of_mem _ hd)) fun os hos => ?_
      have := fin (none :: os) (.cons ho hos)
      simpa [List.filterMap_cons] using this
/-- a comprehension of every item's own value -/
theorem compL_map {m : Bool} {Sty : Mst → Prop} {g : DTG} {tt : DTT} {te : DTE} {ix : List Nat} {a : Addr} {p : Rho} {Q : DK} {M : Mst} (hm : M a = none) (f : D → Option D) (hS : ∀ acc, Sty (put M a (.lst acc)))
    {ds : List D} (hl : ds.length ≤ 100000)
    (step : ∀ d ∈ ds, ∀ (acc : List D) (R : Option D → Mst → Prop), R (f d) (put M a (.lst acc)) → g d DW0 (wipeD p ix) (put M a (.lst acc)) fun p2 M2 => tt DW0 p2 M2 fun b M3 => if b = true then te DW0 p2 M3 fun y M4 => R (some y) M4 else R none M3)
    (fin : if m = true then Q (.ref a) (put M a (.lst (ds.filterMap f))) else Q (.lst (ds.filterMap f)) M) : compL m Sty g tt te ix a p Q ds (put M a (.lst [])) := by
  refine compL_rel hm (fun d o => o = f d) hS ds [] (by simpa using hl) (fun d hd acc R h => step d hd acc R (h _ rfl)) fun os hos => ?_
  rw [hos.eq_map]
  have e : (ds.map f).filterMap id = ds.filterMap f := by rw [List.filterMap_map]; rfl
  simpa [e] using fin
theorem loopL_inv {Sty : Mst → Prop} {g : DTG} {tb : DTS} {DW : DWt} {DE : DEnds} (I : Nat → Rho → Mst → Prop) {ds : List D} {n : Nat} (hn : n = ds.length)
    (step : ∀ i d p M (R : Rho → Mst → Prop), ds[i]? = some d → I i p M → (∀ p' M', I (i + 1) p' M' → R p' M') → Sty M ∧ g d DW p M fun p' M' => tb DW { DE with nx := R, ct := R, bk := DE.nx } p' M')
    (fin : ∀ p M, I n p M → Sty M ∧ DE.nx p M) {p : Rho} {M : Mst} (h : I 0 p M) : loopL Sty g tb DW DE ds p M := by
  have main : ∀ k i p M, i + k = ds.length → I i p M → loopL Sty g tb DW DE (ds.drop i) p M := by
    intro k
    induction k with
    | zero =>
      intro i p M e h
      have e' : i = ds.length := by omega
      subst e'
      rw [List.drop_length]
      exact fin p M (by rw [hn]; exact h)
    | succ k ih =>
      intro i p M e h
      have hi : i < ds.length := by omega
      rw [List.drop_eq_getElem_cons hi]
      exact step i ds[i] p M _ (List.getElem?_eq_getElem hi) h fun p' M' h' => ih (i + 1) p' M' (by omega) h'
  simpa using main ds.length 0 p M (by omega) h
theorem isDataL_all : ∀ ds : List D, isDataL ds = ds.all isData
  | [] => rfl
  | d :: ds => by simp [isDataL, isDataL_all ds]
theorem dep_nil : dep (.lst []) ≤ 64 := by decide
theorem deq_nil (xs : List D) : deq (.lst xs) (.lst []) = xs.isEmpty := by
  unfold deq
  cases xs <;> simp [pyd, pydL, PyData.eqv, PyData.eqvAll]
theorem eq_nil {neg : Bool} {x : D} {ds : List D} {M : Mst} {Q : DK} (hx : res M x = .lst ds) (h : ds.all isData = true) : dEq neg x (.lst []) M Q = Q (.bl (xor neg ds.isEmpty)) M := by
  unfold dEq
  rw [hx, res_lst, deq_nil]
  have h1 : isData (.lst ds) = true := by rw [isData, isDataL_all]; exact h
  have h2 : isData (.lst []) = true := rfl
  have h3 : min (dep (.lst ds)) (dep (.lst [])) ≤ 64 := Nat.le_trans (Nat.min_le_right _ _) dep_nil
  simp [h1, h2, h3]
theorem deq_int (i j : Int) : deq (.int i) (.int j) = decide (i = j) := by
  unfold deq; simp only [pyd, PyData.eqv]
  exact Bool.beq_eq_decide_eq _ _
theorem eq_int {neg : Bool} {i j : Int} {M : Mst} {Q : DK} : dEq neg (.int i) (.int j) M Q = Q (.bl (xor neg (decide (i = j)))) M := by
  unfold dEq
  rw [res_int, res_int, deq_int]
  have h1 : isData (.int i) = true := rfl
  have h2 : isData (.int j) = true := rfl
  have h3 : min (dep (.int i)) (dep (.int j)) ≤ 64 := by simp [dep, pyd, PyData.depth]
  simp [h1, h2, h3]
theorem res_r {M : Mst} {a : Addr} {ds : List D} (h : M a = some (.lst ds)) : res M (.ref a) = .lst ds := by simp [res, h]
theorem data_ints (ns : List Int) : (ns.map D.int).all isData = true := List.all_eq_true.mpr fun x hx => by
  obtain ⟨n, _, rfl⟩ := List.mem_map.mp hx; rfl
end DL
namespace DL
open PySem L2
structure QK (X : Cx) (W : WX) (kws : List Keyword) (t : TA) (q : DTA) : Prop where
  pe : PK X kws t
  rf : RefA X.K W t q
def pickL {α : Type} (idx : List Nat) (l : List α) : List α := idx.filterMap (l[·]?)
theorem pick_vals {vs : List V} {us : List Value} (r : Vals vs us) : ∀ idx : List Nat, Vals (pickL idx vs) (pickL idx us)
  | [] => .nil
  | i :: idx => by
    have ih := pick_vals r idx
    unfold pickL at ih ⊢
    rw [List.filterMap_cons, List.filterMap_cons]
    have : (vs[i]? = none ∧ us[i]? = none) ∨ ∃ v u, vs[i]? = some v ∧ us[i]? = some u ∧ RelV v u := by
      clear ih
      induction r generalizing i with
      | nil => exact .inl ⟨rfl, rfl⟩
      | cons h _ ih =>
        cases i with
        | zero => exact .inr ⟨_, _, rfl, rfl, h⟩
        | succ i => simpa using ih i
    rcases this with ⟨e1, e2⟩ | ⟨v, u, e1, e2, e3⟩
    · rw [e1, e2]; exact ih
    · rw [e1, e2]; exact .cons e3 ih
theorem pick_rep {K : PySem.W.Frag} {G : Hp} {ds : List D} {vs : List V} (r : RepL K G ds vs) : ∀ idx : List Nat, RepL K G (pickL idx ds) (pickL idx vs)
  | [] => rfl
  | i :: idx => by
    have ih := pick_rep r idx
    unfold pickL at ih ⊢
    rw [List.filterMap_cons, List.filterMap_cons]
    cases e : ds[i]? with
    | some d =>
      obtain ⟨v, e1, e2⟩ := r.get e
      rw [e1]; exact RepL.cons e2 ih
    | none =>
      cases e1 : vs[i]? with
      | none => exact ih
      | some v => obtain ⟨d, e2, _⟩ := r.getV e1; rw [e] at e2; cases e2
section
variable {X : Cx} {W : WX} {k : Nat} {f : Addr} {fd : FuncData} {ps ks : List Str} {P : DSp} {x : Str} {p pos kpos : Pos} {e : Expr} {es : List Expr} {kws : List Keyword} {te : TE} {qe : DTE} {t tk : TA} {q qk : DTA} {nm : Option Str} {n : Nat} {idx : List Nat}
theorem qk_nil : QK X W [] tNil qNil := ⟨pk_nil, fun DW G H p M s Q Q' hw S q k => k G H M [] [] (Same.refl _) S rfl q⟩
theorem qk_cons (ha : QE X W e te qe) (hr : QK X W kws t q) : QK X W (⟨nm, e, kpos⟩ :: kws) (tCons te t) (qCons qe q) :=
  ⟨pk_cons ha.pe hr.pe, fun DW G H p M s Q Q' hw S h k => ha.rf DW G H p M s _ _ hw S h fun G1 H1 M1 d v e1 S1 r1 h1 =>
    hr.rf DW G1 H1 p M1 s _ _ (hw.mono e1) S1 h1 fun G2 H2 M2 ds vs e2 S2 r2 h2 => k G2 H2 M2 _ _ (e1.trans e2) S2 (RepL.cons (Rep.mono e2 _ _ r1) r2) h2⟩
/-- how a call with n values and the keywords ks binds: the parameters' values by their places -/
def KwB (K : PySem.W.Frag) (fd : FuncData) (ps : List Str) (n : Nat) (ks : List Str) (idx : List Nat) : Prop :=
  ∀ (s : Shared) (us ws : List Value), K.In s.heap → us.length = n → ws.length = ks.length → BindsTo s fd ⟨us, ks.zip ws⟩ (ps.zip (pickL idx (us ++ ws)))
end
end DL
namespace DL
open PySem L2
mutual
theorem deq_refl : ∀ d : D, isData d = true → deq d d = true
  | .non, _ => by simp [deq, pyd, PyData.eqv]
  | .bl b, _ => by simp [deq, pyd, PyData.eqv]
  | .int i, _ => by simp [deq, pyd, PyData.eqv]
  | .str x, _ => by simp [deq, pyd, PyData.eqv]
  | .tup ds, h => by have := deqL_refl ds h; simpa [deq, deqL, pyd, PyData.eqv] using this
  | .ktp ds, h => by have := deqL_refl ds h; simpa [deq, deqL, pyd, PyData.eqv] using this
  | .xtp ds, h => by have := deqL_refl ds h; simpa [deq, deqL, pyd, PyData.eqv] using this
  | .lst ds, h => by have := deqL_refl ds h; simpa [deq, deqL, pyd, PyData.eqv] using this
  | .scr _, h => by cases h
  | .ty _, h => by cases h
  | .ref _, h => by cases h
  | .dct _ _, h => by cases h
  | .ins _ _ _, h => by cases h
  | .exc _ _ _ _, h => by cases h
  | .fnv _ _ _ _ _, h => by cases h
theorem deqL_refl : ∀ ds : List D, isDataL ds = true → deqL ds ds = true
  | [], _ => by simp [deqL, pydL, PyData.eqvAll]
  | d :: ds, h => by
    have h' : isData d = true ∧ isDataL ds = true := by simpa [isDataL] using h
    have h1 := deq_refl d h'.1
    have h2 := deqL_refl ds h'.2
    simp only [deq, deqL, pydL, PyData.eqvAll] at h1 h2 ⊢
    rw [h1, h2]; rfl
end
theorem deq_str (x y : Str) : deq (.str x) (.str y) = decide (x = y) := by
  unfold deq; simp only [pyd, PyData.eqv]; exact Bool.beq_eq_decide_eq _ _
theorem deq_bl (x y : Bool) : deq (.bl x) (.bl y) = decide (x = y) := by
  unfold deq; simp only [pyd, PyData.eqv]; exact Bool.beq_eq_decide_eq _ _
theorem depA_le {n : Nat} : ∀ ds : List D, (∀ d ∈ ds, dep d ≤ n) → PyData.depthAll (pydL ds) ≤ n
  | [], _ => by simp [pydL, PyData.depthAll]
  | d :: ds, h => by
    have h1 := h d (List.mem_cons_self ..)
    have h2 := depA_le ds fun x hx => h x (List.mem_cons_of_mem _ hx)
    unfold dep at h1
    simp only [pydL, PyData.depthAll]
    omega
theorem dep_lst {n : Nat} {ds : List D} (h : ∀ d ∈ ds, dep d ≤ n) : dep (.lst ds) ≤ n + 1 := by
  have := depA_le ds h
  simp only [dep, pyd, PyData.depth]; omega
theorem dep_tup {n : Nat} {ds : List D} (h : ∀ d ∈ ds, dep d ≤ n) : dep (.tup ds) ≤ n + 1 := by
  have := depA_le ds h
  simp only [dep, pyd, PyData.depth]; omega
/-- == of what is the same -/
theorem eq_same {neg : Bool} {x y d : D} {M : Mst} {Q : DK} (hx : res M x = d) (hy : res M y = d) (h : isData d = true) (hd : dep d ≤ 64) : dEq neg x y M Q = Q (.bl (!neg)) M := by
  unfold dEq
  rw [hx, hy, deq_refl d h]
  have h3 : min (dep d) (dep d) ≤ 64 := Nat.le_trans (Nat.min_le_left _ _) hd
  simp only [h, h3, Bool.xor_true, true_and]
theorem eq_str {neg : Bool} {x y : Str} {M : Mst} {Q : DK} : dEq neg (.str x) (.str y) M Q = Q (.bl (xor neg (decide (x = y)))) M := by
  unfold dEq
  rw [res_str, res_str, deq_str]
  have h1 : isData (.str x) = true := rfl
  have h2 : isData (.str y) = true := rfl
  have h3 : min (dep (.str x)) (dep (.str y)) ≤ 64 := by simp [dep, pyd, PyData.depth]
  simp [h1, h2, h3]
/-- isinstance(x, T) -/
theorem isi_one {x : D} {T : String} {b : Bool} {M : Mst} {Q : DK} (h : hasTy (res M x) = true) (hb : isiB (tyD (res M x)) T = some b) : dIsi [x, .ty T] M Q = Q (.bl b) M := by
  unfold dIsi; simp only [h, hb, true_and]
theorem isi_tup {x : D} {Ts : List D} {b : Bool} {M : Mst} {Q : DK} (h : hasTy (res M x) = true) (hb : isiL (tyD (res M x)) Ts = some b) : dIsi [x, .tup Ts] M Q = Q (.bl b) M := by
  unfold dIsi; simp only [h, hb, true_and]
theorem tl : isiB "tuple" "list" = some false := by decide +kernel
/-- all(list of truths) -/
theorem all_bls {bs : List Bool} {M : Mst} {Q : DK} : dAll [.lst (bs.map D.bl)] M Q = Q (.bl (bs.all id)) M := by
  have h : blsD (bs.map D.bl) = some bs := by
    have := blsD_map (id : Bool → Bool) bs
    simpa using this
  unfold dAll
  simp only [res_lst, h]
section
variable {P : Program} {w : World} {K : PySem.W.Frag} {mg : Str → Option Value} {base : Heap}
theorem fn_void {k : Nat} {f : Addr} {fd : FuncData} {ps : List Str} {p : DSp} (h : ∀ ds M Q E, ¬ p ds M Q E) : FnOk P w K mg base (L2.CX P w) k f fd ps (toSp K p) :=
  ⟨fun _ _ _ _ q => by
    obtain ⟨_, ds, M, Qd, Ed, _, _, _, hp, _⟩ := q
    exact (h _ _ _ _ hp).elim, fun _ _ _ _ _ _ _ _ _ _ _ _ _ hs => by
    obtain ⟨_, ds, M, Qd, Ed, _, _, _, hp, _⟩ := hs
    exact (h _ _ _ _ hp).elim⟩
end
end DL
namespace DL
open PySem L2
def okS (z : Str) : Prop := z.length ≤ 100000 ∧ PyData.strOk z = true
theorem okS_rep {K : PySem.W.Frag} {G : Hp} {z : Str} (h : okS z) : Rep K G (.str z) (.str z) := ⟨rfl, sz1000 h.1, h.2⟩
theorem hz24 : sizeLine = 16777216 := by rw [sizeLine_eq]
theorem MtR.imp {X : Cx} {id : String} {r r' : V → List V → Hp → VK → Prop} (h : MtR X id r) (i : ∀ x xs H Q, r' x xs H Q → r x xs H Q) : MtR X id r' := fun pins s σ H x xs v us Q I rx rs q => h pins s σ H x xs v us Q I rx rs (i _ _ _ _ q)
def strsD : List D → Option (List Str)
  | [] => some []
  | .str x :: ds => (strsD ds).map (x :: ·)
  | _ :: _ => none
@[simp] theorem strsD_map : ∀ ys : List Str, strsD (ys.map D.str) = some ys
  | [] => rfl
  | y :: ys => by simp [strsD, strsD_map ys]
theorem strsD_of {K : PySem.W.Frag} {G : Hp} : ∀ {ds : List D} {vs : List V} {ys : List Str}, RepL K G ds vs → strsD ds = some ys → vs = ys.map V.str
  | [], _, _, r, h => by cases r; cases h; rfl
  | d :: ds, _, ys, ⟨v, r, e1, r1, r2⟩, h => by
    cases d with
    | str x =>
      simp only [strsD, Option.map_eq_some_iff] at h
      obtain ⟨zs, h1, rfl⟩ := h
      obtain ⟨rfl, _⟩ := r1
      rw [e1, strsD_of r2 h1]; rfl
    | _ => cases h
def rJoin (K : PySem.W.Frag) : V → List V → Hp → VK → Prop := fun x xs H Q => ∃ a p, ∃ ys : List Str, x = .str a ∧ xs = [.ref p] ∧ SqL K H p (ys.map V.str) ∧ (ys.map (·.length)).sum + ys.length * a.length ≤ 100000 ∧ Q (.str (Txt.join a ys)) H
/-- sep.join(a list of texts) -/
def mJoin : DMt := fun x ds M Q => match res M x, ds with
  | .str z, [d] => match res M d with
    | .lst es => match strsD es with
      | some ys => (ys.map (·.length)).sum + ys.length * z.length ≤ 100000 ∧ okS (Txt.join z ys) ∧ Q (.str (Txt.join z ys)) M
      | none => False
    | _ => False
  | _, _ => False
theorem m_join {X : Cx} : QMt X "str.join" (rJoin X.K) mJoin := ⟨MtR.imp mt_join fun x xs H Q ⟨a, p, ys, e1, e2, e3, e4, q⟩ => ⟨a, p, ys, e1, e2, .inl e3, by omega, q⟩, fun G H p M s x v ds vs Q Q' S r1 r2 h k => by
  unfold mJoin at h
  split at h
  · next z d e =>
    obtain ⟨rfl, _, _⟩ := as_str r1 e
    obtain ⟨u, rfl, r3⟩ := repL1 r2
    split at h
    · next es ed =>
      obtain ⟨a, vs, rfl, h1, h2, _⟩ := as_lst S r3 ed
      split at h
      · next ys ey =>
        have ev := strsD_of h2 ey
        subst ev
        obtain ⟨g1, g2, g3⟩ := h
        exact ⟨z, a, ys, rfl, rfl, .inl (.inl h1), g1, k G H M (.str (Txt.join z ys)) _ (Same.refl _) S (okS_rep g2) g3⟩
      · exact h.elim
    · exact h.elim
  · exact h.elim⟩
def repS (z : Str) (n : Int) : Str := ⟨(List.replicate n.toNat z.cps).foldl (· ++ ·) #[]⟩
def rMulS : R2 := fun x y H Q => ∃ (z : Str) (n : Int), x = .str z ∧ y = .int n ∧ -(2 ^ 62) ≤ n ∧ n ≤ 100000 ∧ z.length * n.toNat ≤ 100000 ∧ Q (.str (repS z n)) H
theorem fold_size (a : Array Nat) : ∀ (k : Nat) (acc : Array Nat), ((List.replicate k a).foldl (· ++ ·) acc).size = acc.size + k * a.size
  | 0, acc => by simp
  | k + 1, acc => by
    rw [List.replicate_succ, List.foldl_cons, fold_size a k, Array.size_append, Nat.succ_mul]; omega
theorem op_mulS {X : Cx} : OpR X (binaryOp .Mult) rMulS := by
  intro pins s σ H x y v u Q I rx ry h
  obtain ⟨z, n, rfl, rfl, h1, h2, h3, q⟩ := h
  obtain ⟨t, rfl⟩ := rx
  obtain ⟨t2, rfl⟩ := ry
  have hz := hz24
  refine P.mul_str ?_ (fun a1 a2 => ?_) (fun a1 a2 => ?_) ?_
  · have e1 : ¬ n < -(2 ^ 63 : Int) := by omega
    have e2 : ¬ n ≥ 2 ^ 63 := by omega
    rw [decide_eq_false e1, decide_eq_false e2]; rfl
  · intro z1
    have e : (2 ^ 63 - 1 : Int) / n ≥ (z.length : Int) := by
      refine Int.le_ediv_of_mul_le (by omega) ?_
      have e3 : ((z.length * n.toNat : Nat) : Int) ≤ 100000 := Int.ofNat_le.mpr h3
      have e4 : ((n.toNat : Nat) : Int) = n := by omega
      rw [Int.natCast_mul, e4] at e3
      omega
    omega
  · unfold Builtin.Str.tooLong
    exact decide_eq_false (by rw [hz]; omega)
  · split
    · next hn =>
      have e : n.toNat = 0 := by omega
      have e2 : repS z n = Str.empty := by unfold repS; rw [e]; rfl
      exact ⟨by decide, .str (repS z n), H, I.tok _, ⟨s.toks, by rw [e2]⟩, q⟩
    · split
      · next hn hz =>
        refine ⟨.str (repS z n), H, I, ⟨t, ?_⟩, q⟩
        have e : repS z n = z := by
          rw [Bool.or_eq_true] at hz
          rcases hz with hz | hz
          · have e1 : n = 1 := by simpa using hz
            subst e1
            show (⟨#[] ++ z.cps⟩ : Str) = z
            simp
          · have e1 : z.cps.size = 0 := by
              have e0 : z.length = 0 := by simpa using hz
              exact e0
            have e2 : z.cps = #[] := Array.eq_empty_of_size_eq_zero e1
            have e3 : z = ⟨#[]⟩ := by cases z; simp at e2; rw [e2]
            rw [e3]; unfold repS
            generalize n.toNat = k
            have : ∀ k : Nat, (List.replicate k (#[] : Array Nat)).foldl (· ++ ·) #[] = #[] := fun k => by
              induction k with
              | zero => rfl
              | succ k ih => rw [List.replicate_succ, List.foldl_cons]; simpa using ih
            rw [this]
        rw [e]
      · exact ⟨by
          show (repS z n).length ≤ sizeLine
          have e : (repS z n).length = 0 + n.toNat * z.cps.size := fold_size z.cps n.toNat #[]
          have e2 : z.length = z.cps.size := rfl
          rw [e, hz, Nat.mul_comm, ← e2]; omega, .str (repS z n), H, I.tok _, ⟨_, rfl⟩, q⟩
def dMul (m : Bool) : DOp := fun x y M Q => match res M x, y with
  | .int i, .int j => CMul i j ∧ Q (.int (i * j)) M
  | .str z, .int n => -(2 ^ 62) ≤ n ∧ n ≤ 100000 ∧ z.length * n.toNat ≤ 100000 ∧ PyData.strOk (repS z n) = true ∧ Q (.str (repS z n)) M
  | .lst ds, .int n => -(2 ^ 62) ≤ n ∧ n ≤ 100000 ∧ ds.length * n.toNat ≤ 100000 ∧ newL m (List.replicate n.toNat ds).flatten M Q
  | _, _ => False
theorem repL_rep {K : PySem.W.Frag} {G : Hp} {ds : List D} {vs : List V} (r : RepL K G ds vs) : ∀ n : Nat, RepL K G (List.replicate n ds).flatten (List.replicate n vs).flatten
  | 0 => rfl
  | n + 1 => by rw [List.replicate_succ, List.replicate_succ, List.flatten_cons, List.flatten_cons]; exact RepL.append r (repL_rep r n)
theorem rep_flat_len {α : Type} (l : List α) : ∀ n : Nat, (List.replicate n l).flatten.length = l.length * n
  | 0 => rfl
  | n + 1 => by rw [List.replicate_succ, List.flatten_cons, List.length_append, rep_flat_len l n, Nat.mul_succ]; omega
def rMulX : R2 := fun x y H Q => rI CMul (fun i j => .int (i * j)) x y H Q ∨ rMulS x y H Q ∨ rRep x y H Q
theorem o_mul {X : Cx} (m : Bool) : QOp X (binaryOp .Mult) rMulX (dMul m) := ⟨OpR.or op_mul (OpR.or op_mulS op_rep), fun G H p M s x y v u Q Q' S r1 r2 h k => by
  unfold dMul at h
  split at h
  · next i j e =>
    cases as_int r1 e
    cases r2
    exact .inl ⟨i, j, rfl, rfl, h.1, k G H M (.int (i * j)) _ (Same.refl _) S rfl h.2⟩
  · next z n e =>
    obtain ⟨rfl, _, _⟩ := as_str r1 e
    cases r2
    obtain ⟨h1, h2, h3, h4, h5⟩ := h
    refine .inr (.inl ⟨z, n, rfl, rfl, h1, h2, h3, k G H M (.str (repS z n)) _ (Same.refl _) S (okS_rep ⟨?_, h4⟩) h5⟩)
    have e : (repS z n).length = 0 + n.toNat * z.cps.size := fold_size z.cps n.toNat #[]
    have e2 : z.length = z.cps.size := rfl
    rw [e, Nat.mul_comm, ← e2]; omega
  · next ds n e =>
    obtain ⟨a, vs, rfl, g1, g2, g3⟩ := as_lst S r1 e
    cases r2
    obtain ⟨h1, h2, h3, h4⟩ := h
    have hz := hz24
    have l1 := g2.length
    refine .inr (.inr ⟨a, n, vs, rfl, rfl, g1, by omega, by omega, by rw [l1]; omega, fun q hq => newL_ok S hq (repL_rep g2 _) ?_ h4 k⟩)
    rw [rep_flat_len, l1]; omega
  · exact h.elim⟩
def rTexts : List V → Hp → VK → Prop := fun xs H Q => (∃ i, xs = [.int i] ∧ i.natAbs.log2 < 1920 ∧ Q (.str (toString i)) H) ∨ ∃ a, xs = [.str a] ∧ Q (.str a) H
/-- str(x) of a number, of a text -/
def dStr : DCa := fun ds M Q => match ds with
  | [x] => match res M x with
    | .int i => i.natAbs.log2 < 1920 ∧ okS (Str.ofString (toString i)) ∧ Q (.str (Str.ofString (toString i))) M
    | .str z => Q (.str z) M
    | _ => False
  | _ => False
theorem c_str {X : Cx} : QCa X (.type "str") rTexts dStr := ⟨CallR.or call_str_int SkE.call_str_str, fun G H p M s ds vs Q Q' S r h k => by
  unfold dStr at h
  split at h
  · next x =>
    obtain ⟨v, rfl, r1⟩ := repL1 r
    split at h
    · next i e =>
      cases as_int r1 e
      obtain ⟨h1, h2, h3⟩ := h
      exact .inl ⟨i, rfl, h1, k G H M (.str (Str.ofString (toString i))) _ (Same.refl _) S (okS_rep h2) h3⟩
    · next z e =>
      obtain ⟨rfl, l1, o1⟩ := as_str r1 e
      exact .inr ⟨z, rfl, k G H M (.str z) _ (Same.refl _) S ⟨rfl, l1, o1⟩ h⟩
    · exact h.elim
  · exact h.elim⟩
/-- int(x) of a number, a truth, a text -/
def dIntX : DCa := fun ds M Q => match ds with
  | [x] => match res M x with
    | .int i => Q (.int i) M
    | .bl b => Q (.int (if b then 1 else 0)) M
    | .str z => match intText? z with
      | some n => z.length ≤ 640 ∧ Q (.int n) M
      | none => False
    | _ => False
  | _ => False
theorem c_intX {X : Cx} : QCa X (.type "int") (fun xs H Q => ((∃ i, xs = [.int i] ∧ Q (.int i) H) ∨ ∃ k, xs = [.bl k] ∧ Q (.int (if k then 1 else 0)) H) ∨ ∃ a n, xs = [.str a] ∧ PySem.intText? a = some n ∧ a.length ≤ 640 ∧ Q (.int n) H) dIntX :=
  ⟨CallR.or call_int1 call_int_str, fun G H p M s ds vs Q Q' S r h k => by
  unfold dIntX at h
  split at h
  · next x =>
    obtain ⟨v, rfl, r1⟩ := repL1 r
    split at h
    · next i e =>
      cases as_int r1 e
      exact .inl (.inl ⟨i, rfl, k G H M (.int i) _ (Same.refl _) S rfl h⟩)
    · next b e =>
      cases as_bl r1 e
      exact .inl (.inr ⟨b, rfl, k G H M (.int (if b then 1 else 0)) _ (Same.refl _) S rfl h⟩)
    · next z e =>
      obtain ⟨rfl, _, _⟩ := as_str r1 e
      split at h
      · next n en => exact .inr ⟨z, n, rfl, en, h.1, k G H M (.int n) _ (Same.refl _) S rfl h.2⟩
      · exact h.elim
    · exact h.elim
  · exact h.elim⟩
end DL
namespace DL
open PySem L2 PySem.NumText PySem.Calls
structure GlI (mg : Str → Option Value) (x : Str) (i : Int) : Prop where
  ex : ∃ t, mg x = some (.int i t)
section
variable {X : Cx} {W : WX} {pos : Pos}
theorem q_globI {x : Str} {i : Int} (hg : Gl X x) (h : GlI X.mg x i) (hd : (x == ("__debug__" : Str)) = false := by decide) : QE X W (.Name x pos) (tC (.int i)) (qC (.int i)) := by
  obtain ⟨t, h⟩ := h.ex
  exact q_glob hg h ⟨t, rfl⟩ (fun _ => rfl) hd
end
end DL
namespace DL
open PySem L2
def tupAt : D → Option (List D)
  | .tup ds => some ds
  | .ktp ds => some ds
  | .xtp ds => some ds
  | _ => none
theorem tupAt_of {K : PySem.W.Frag} {G : Hp} {d : D} {v : V} {ds : List D} (r : Rep K G d v) (h : tupAt d = some ds) : ∃ a vs, v = .ref a ∧ SqT K G a vs ∧ RepL K G ds vs ∧ ds.length ≤ sizeLine := by
  cases d with
  | tup es =>
    cases h
    obtain ⟨a, vs, rfl, g1, g2, g3⟩ := r
    exact ⟨a, vs, rfl, .inl (.inl g1), g2, by rw [← g2.length]; exact g3⟩
  | ktp es =>
    cases h
    obtain ⟨a, vs, rfl, g1, g2, g3⟩ := r
    exact ⟨a, vs, rfl, g1, g2, by rw [← g2.length]; exact g3⟩
  | xtp es =>
    cases h
    obtain ⟨a, o, vs, rfl, g1, g0, g2, g3⟩ := r
    exact ⟨a, vs, rfl, .inl (.inr ⟨o, g1⟩), g2, by rw [← g2.length]; exact g3⟩
  | _ => cases h
def qiZipT (qa : DTA) : DTI := fun DW p M R => qa DW p M fun ds M1 => match ds with
  | [x, y] => match tupAt x, tupAt y with
    | some es, some fs => R (zipD es fs) always M1
    | _, _ => False
  | _ => False
section
variable {X : Cx} {W : WX} {e e2 : Expr} {ta : TA} {qa : DTA} {p pos tpos : Pos} {elts : List Expr} {kk : Nat}
theorem qi_zipT (hg : Gl X "zip") (hm : X.mg "zip" = none) (ha : QA X W [e, e2] ta qa)
    (hs : starEach [e, e2] X.env = (false, eval e X.env) :: starEach [e2] X.env := by rfl) (hpl : (backTo pos (starEach [e2] X.env)).any (·.1) = false := by rfl) :
    QI X W (.Tuple elts kk tpos) (.Call (.Name "zip" p) [e, e2] [] pos) (RZ.iZipA X.K ta) (qiZipT qa) :=
  ⟨RZ.pi_zipA hg hm ha.pe hs hpl, fun DW G H p M s R R' hw S h k => ha.rf DW G H p M s _ _ hw S h fun G1 H1 M1 ds vs e1 S1 r1 h1 => by
    split at h1
    · next x y =>
      obtain ⟨v, u, rfl, r2, r3⟩ := repL2 r1
      split at h1
      · next es fs el1 el2 =>
        obtain ⟨a, us, rfl, c1, c2, len1⟩ := tupAt_of r2 el1
        obtain ⟨b, ws, rfl, d1, d2, len2⟩ := tupAt_of r3 el2
        refine ⟨a, b, us, ws, rfl, .inr ⟨same_t S1.same c1, same_t S1.same d1, k G1 H1 M1 _ _ _ e1 S1 ⟨fun G' H p M s i e S st hi => ?_, fun G' H p M s i x H' e S st y d hd => ?_, fun G' H p M s e S st => ?_⟩ (by rw [zipD_length]; omega) h1⟩⟩
        · rw [zipD_length] at hi
          obtain ⟨x, hx⟩ := get_lt (xs := us) (i := i) (by rw [c2.length]; omega)
          obtain ⟨y, hy⟩ := get_lt (xs := ws) (i := i) (by rw [d2.length]; omega)
          exact ⟨us, ws, x, y, same_t (e.trans S.same) c1, same_t (e.trans S.same) d1, hx, hy⟩
        · obtain ⟨T, x', y', rfl, hT, rfl, y1, y2⟩ := y
          rw [zipD_get] at hd
          split at hd
          · next d' d'' ed1 ed2 =>
            cases hd
            obtain ⟨w, w1, w2⟩ := c2.get ed1
            rw [y1 us (same_t (e.trans S.same) c1)] at w1; cases w1
            obtain ⟨w, w1, w3⟩ := d2.get ed2
            rw [y2 ws (same_t (e.trans S.same) d1)] at w1; cases w1
            obtain ⟨e2, S2⟩ := S.made (o := .tup [x', y']) hT
            exact ⟨_, e2, S2, T, _, rfl, upd_same, RepL.mono e2 _ _ (RepL.cons (Rep.mono e _ _ w2) (RepL.cons (Rep.mono e _ _ w3) rfl)), sz1000 (by simp)⟩
          · cases hd
        · refine ⟨us, ws, same_t (e.trans S.same) c1, same_t (e.trans S.same) d1, ?_⟩
          rw [zipD_length, c2.length, d2.length]; omega
      · exact h1.elim
    · exact h1.elim⟩
end
end DL
namespace DL
open PySem L2
def qBag2R : DTS :=
  (qSeq (qAsg (qC (.int 0)) (gNameD 2))
  (qSeq (qIfS (qTB (qOp (dCmpI fun i j => decide (i < j)) (qVar 1) (qCB dLen (qCons (qVar 0) qNil))))
  (qAsg (qOp dIx (qVar 0) (qVar 1)) (gNameD 2))
  qNext)
  (qSeq (qAsg (qC (.int 0)) (gNameD 3))
  (qSeq (qIfS (qTB (qOp (dCmpI fun i j => decide (j ≤ i)) (qCB dAbs (qCons (qVar 2) qNil)) (qOp (dInt CPow fun i j => i ^ j.toNat) (qC (.int 10)) (qC (.int 18)))))
  (qAsg (qCB dAbs (qCons (qVar 2) qNil)) (gNameD 3))
  qNext)
  (qSeq (qAsg (qLst false (qCons (qC (.int 2147483629)) (qCons (qC (.int 2147483587)) (qCons (qC (.int 2147483579)) (qCons (qC (.int 2147483563)) (qCons (qC (.int 2147483549)) (qCons (qC (.int 2147483543)) (qCons (qC (.int 2147483497)) (qCons (qC (.int 2147483489)) qNil))))))))) (gNameD 4))
  (qRet (qLst true (qCons (qVar 3) (qCons (qOp (dInt (fun _ j => 0 < j) fun i j => i % j) (qOp (dInt CPow fun i j => i ^ j.toNat) (qOp (dAdd false) (qOp (dAdd false) (qOp (dInt (fun _ j => 0 < j) fun i j => i % j) (qVar 2) (qC (.int 2147483647))) (qOp (dInt CMul fun i j => i * j) (qC (.int 104729)) (qVar 1))) (qC (.int 7))) (qC (.int 5))) (qOp dIx (qVar 4) (qOp (dInt (fun _ j => 0 < j) fun i j => i % j) (qVar 1) (qC (.int 8))))) qNil)))))))))
def bag2Tail : DTS :=
  (qSeq (qAsg (qLst false (qCons (qC (.int 2147483629)) (qCons (qC (.int 2147483587)) (qCons (qC (.int 2147483579)) (qCons (qC (.int 2147483563)) (qCons (qC (.int 2147483549)) (qCons (qC (.int 2147483543)) (qCons (qC (.int 2147483497)) (qCons (qC (.int 2147483489)) qNil))))))))) (gNameD 4))
  (qRet (qLst true (qCons (qVar 3) (qCons (qOp (dInt (fun _ j => 0 < j) fun i j => i % j) (qOp (dInt CPow fun i j => i ^ j.toNat) (qOp (dAdd false) (qOp (dAdd false) (qOp (dInt (fun _ j => 0 < j) fun i j => i % j) (qVar 2) (qC (.int 2147483647))) (qOp (dInt CMul fun i j => i * j) (qC (.int 104729)) (qVar 1))) (qC (.int 7))) (qC (.int 5))) (qOp dIx (qVar 4) (qOp (dInt (fun _ j => 0 < j) fun i j => i % j) (qVar 1) (qC (.int 8))))) qNil)))))
theorem bag2_end (c gr i : Int) (ns : List Int) (M : Mst) (Q : DK) (Ed : DX → Mst → Prop) (i0 : 0 ≤ i) (i1 : i < 10000) (g0 : 0 ≤ gr) (k : ∀ (p : Addr) (g m : Int), M p = none → 0 ≤ g → 0 ≤ m → m < 2147483648 → Q (.ref p) (put M p (.lst [.int g, .int m]))) (x5 : Option D) :
    bag2Tail (fun x _ M => Ed x M) (retE Q) [some (.scr ns), some (.int i), some (.int c), some (.int gr), x5] M := by
  simp only [bag2Tail, qSeq, qIfS, qTB, qOp, qVar, qC, qAsg, gNameD, qRet, qTup, qLst, qCons, qNil, retE, List.set_cons_zero, List.set_cons_succ, List.getElem?_cons_zero, List.getElem?_cons_succ, dInt_i, dAdd_i, newL_t]
  have z0 := Int.emod_nonneg c (show (2147483647 : Int) ≠ 0 by decide)
  have z1 := Int.emod_lt_of_pos c (show (0 : Int) < 2147483647 by decide)
  generalize c % 2147483647 = c2 at z0 z1 ⊢
  refine ⟨by simp, by decide, .inl ⟨by decide, by decide⟩, cpow_small (j := 5) (by omega) (by omega) (by decide), by decide, ?_⟩
  generalize (c2 + 104729 * i + 7) ^ Int.toNat 5 = big
  obtain ⟨x, hx, hm⟩ := atI_some (xs := [D.int 2147483629, .int 2147483587, .int 2147483579, .int 2147483563, .int 2147483549, .int 2147483543, .int 2147483497, .int 2147483489]) (i := i % 8) (Int.emod_nonneg _ (by decide)) (Int.emod_lt_of_pos _ (by decide))
  rw [ix_l hx]
  have : ∃ q : Int, x = .int q ∧ 0 < q ∧ q < 2147483648 := by
    simp only [List.mem_cons, List.not_mem_nil, or_false] at hm
    rcases hm with h | h | h | h | h | h | h | h <;> exact ⟨_, h, by decide, by decide⟩
  obtain ⟨q, rfl, q0, q1⟩ := this
  refine ⟨q0, by simp, fun p hp => k p _ _ hp g0 (Int.emod_nonneg _ (by omega)) ?_⟩
  have := Int.emod_lt_of_pos big q0
  show big % q < _
  omega
def bag2Mid (a b : Int) : DTS := (qSeq (qAsg (qC (.int 0)) (gNameD 3))
  (qSeq (qIfS (qTB (qOp (dCmpI fun i j => decide (j ≤ i)) (qCB dAbs (qCons (qVar 2) qNil)) (qOp (dInt CPow fun i j => i ^ j.toNat) (qC (.int a)) (qC (.int b)))))
  (qAsg (qCB dAbs (qCons (qVar 2) qNil)) (gNameD 3))
  qNext) bag2Tail))
theorem bag2_mid (ns : List Int) (i : Int) (M : Mst) (Q : DK) (Ed : DX → Mst → Prop) (i0 : 0 ≤ i) (i1 : i < 10000) (k : ∀ (p : Addr) (g m : Int), M p = none → 0 ≤ g → 0 ≤ m → m < 2147483648 → Q (.ref p) (put M p (.lst [.int g, .int m])))
    (a b : Int) (hab : CPow a b) (c : Int) : bag2Mid a b (fun x _ M => Ed x M) (retE Q) [some (.scr ns), some (.int i), some (.int c), none, none] M := by
  simp only [bag2Mid, qSeq, qAsg, qC, gNameD, List.set_cons_zero, List.set_cons_succ]
  simp only [qIfS, qTB, qOp]
  simp only [qCB, qCons, qVar, List.getElem?_cons_zero, List.getElem?_cons_succ]
  simp only [qNil, qC, dAbs_i, dInt_i, dCmpI_i, qNext]
  have ab : 0 ≤ if c < 0 then -c else c := by split <;> omega
  refine ⟨hab, ?_⟩
  have no : bag2Tail (fun x _ M => Ed x M) (retE Q) [some (.scr ns), some (.int i), some (.int c), some (.int 0), none] M := bag2_end c 0 i ns M Q Ed i0 i1 (by omega) k none
  have y2 : bag2Tail (fun x _ M => Ed x M) (retE Q) [some (.scr ns), some (.int i), some (.int c), some (.int (if c < 0 then -c else c)), none] M := bag2_end c _ i ns M Q Ed i0 i1 ab k none
  generalize bag2Tail = tail at no y2 ⊢
  by_cases h1 : decide (a ^ b.toNat ≤ if c < 0 then -c else c) = true
  · rw [if_pos h1]
    rw [abs_set _ _ _ _ _ .non]; exact y2
  · rw [if_neg h1]; exact no
theorem bag2_ok (ds : List D) (M : Mst) (Q : DK) (Ed : DX → Mst → Prop) (h : upSp spBagL ds M Q Ed) : qBag2R (fun x _ M => Ed x M) (retE Q) (startD ["_law_script", "_law_at", "_law_cell", "_law_great", "_law_primes"] ds) M := by
  obtain ⟨Q0, E0, ⟨ns, i, rfl, i0, i1, k0⟩, kq, _⟩ := h
  have k : ∀ (p : Addr) (g m : Int), M p = none → 0 ≤ g → 0 ≤ m → m < 2147483648 → Q (.ref p) (put M p (.lst [.int g, .int m])) := fun p g m a1 a2 a3 a4 => kq _ _ _ (Sub.refl _) (k0 p g m a1 a2 a3 a4)
  have part := bag2_mid ns i M Q Ed i0 i1 k 10 18 (cpow_small (j := 18) (by omega) (by omega) (by omega))
  show qSeq (qAsg (qC (.int 0)) (gNameD 2)) (qSeq (qIfS (qTB (qOp (dCmpI fun i j => decide (i < j)) (qVar 1) (qCB dLen (qCons (qVar 0) qNil))))
  (qAsg (qOp dIx (qVar 0) (qVar 1)) (gNameD 2))
  qNext) (bag2Mid 10 18)) _ _ [some (.scr ns), some (.int i), none, none, none] M
  generalize bag2Mid 10 18 = mid at part ⊢
  simp only [qSeq, qIfS, qTB, qOp, qVar, qC, qAsg, gNameD, qCB, qCons, qNil, qNext, List.set_cons_zero, List.set_cons_succ, List.getElem?_cons_zero, List.getElem?_cons_succ, dCmpI_i, len_s']
  by_cases h : i < (ns.length : Int)
  · rw [if_pos (by simpa using h)]
    obtain ⟨x, hx, _⟩ := atI_some (xs := ns) (i := i) i0 h
    rw [ix_s hx]
    exact part x
  · rw [if_neg (by simpa using h)]
    exact part 0
end DL
namespace Tx20
open PySem L2 DL PyProof.Rows
def Asc (x : Str) : Prop := ∀ c ∈ x.cps.toList, c < 128
theorem ok_asc {x : Str} (h : Asc x) (hl : x.length ≤ 100000) : okS x := ⟨hl, by
  unfold PyData.strOk
  rw [← Array.all_toList, List.all_eq_true]
  intro c hc
  have := h c hc
  exact decide_eq_true (by omega)⟩
/-- x read up to here: the words done, the word begun -/
structure St (x : Str) (done : List Str) (cur : Str) : Prop where
  asc : Asc x
  at_ : KWd.scan (Txt.lower x) = (done, cur)
end Tx20
set_option maxHeartbeats 4000000
namespace DL
open PySem PySem.Spec PyProof.Rows L2
/-- a built-in exception class B over which own ones stand -/
def IniX (n i : String) (tl : List Value) : Prop := ∀ {prog : Program} {w : World} {A : Around} {R : Result → Shared → Prop} {h : Heap} {g : Array GenState} {d : Drawn} {t : Nat} {os : OsState} {nm q : Str} {C N : Addr} {bs bm : List Value} {hdct : Bool} {sn : List Str} {sub : List Value} {ab : Bool} {col : Option Bool} {dd : Option Addr} {k0 k1 k2 k3 k5 : Option Value} {e t0 : Addr} {rest : List Value},
  (∀ Y : String, bm.contains (.type Y) = tl.contains (.type Y)) → h.get? C = some (excClassObj nm q C N bs bm hdct sn sub ab col dd k0 k1 k2 k3 k5 n) → h.get? e = some (HandSPX.excO C t0) → rest.length ≤ sizeLine →
  (∀ h' t1, (∀ b o, b ≠ e → h.get? b = some o → h'.get? b = some o) → h'.get? e = some (HandSPX.excO C t1) → R (.ok (.ret .none)) ⟨h', g, d, t, os⟩) → codeAny (model prog w) A (.call (.builtin i) ⟨.ref e :: rest, []⟩) R ⟨h, g, d, t, os⟩
def CalX (n : String) (tl : List Value) : Prop := ∀ {prog : Program} {w : World} {A : Around} {R : Result → Shared → Prop} {h : Heap} {g : Array GenState} {d : Drawn} {t : Nat} {os : OsState} {nm q : Str} {C N : Addr} {bs bm : List Value} {hdct : Bool} {sn : List Str} {sub : List Value} {ab : Bool} {col : Option Bool} {dd : Option Addr} {k0 k1 k2 k3 k5 : Option Value} {rest : List Value} {fI : Addr},
  (∀ Y : String, bm.contains (.type Y) = tl.contains (.type Y)) → h.get? C = some (excClassObj nm q C N bs bm hdct sn sub ab col dd k0 k1 k2 k3 k5 n) →
  PySem.W.Looks (model prog w) h (typeLookup (.ref C) "__init__") (some (.ref fI)) → (∀ self, PySem.W.Looks (model prog w) h (bindSpecial (.ref fI) self) (.ref fI, [self])) → rest.length ≤ sizeLine →
  codeAny (model prog w) (A.under (.builtin "type.__call__" ⟨.ref C :: rest, []⟩)) (.call (.ref fI) ⟨.ref (h.objs.size + 1) :: rest, []⟩) (PySem.W.InitBack (h.objs.size + 1) R) ⟨(h.push (PySem.W.kdv_tup rest)).push (HandSPX.excO C h.objs.size), g, d, t, os⟩ →
  codeAny (model prog w) A (.call (.ref C) ⟨rest, []⟩) R ⟨h, g, d, t, os⟩
structure BaseX (B n i : String) (tl : List Value) : Prop where
  ini : IniX n i tl
  cal : CalX n tl
  sf : StoreFacts B tl "object.__setattr__" "object"
  ty : typeOf (.type B) = pure (.type "type")
  nd : (Value.type B == Value.type "type") = false
theorem BaseX.of {B n i : String} {tl : List Value} (fb : ExcBaseFacts B n i tl) (sf : StoreFacts B tl "object.__setattr__" "object") (ty : typeOf (.type B) = pure (.type "type")) (nd : (Value.type B == Value.type "type") = false) : BaseX B n i tl :=
  { ini := fun hT hC he hz hq => HandSPX.init_base fb hT hC he hz hq, cal := fun hT hC li lb hz hq => HandSPX.call_own fb hT hC li lb hz hq, sf := sf, ty := ty, nd := nd }
@[simp] def qRaise (C : Addr) (fs : List Str) (qa : DTA) : DTS := fun DW DE p M => qa DW p M fun ds M1 => ds.length = fs.length ∧ DW ⟨.ref C, (fs.zip ds).reverse⟩ p M1
section
variable {X : Cx} {W : WX} {C a : Addr} {oe : Obj} {d : Option Addr} {pn : List (Addr × Obj)} {e : Expr} {te : TE} {qe : DTE} {f : Str} {pos : Pos}
def dIsX (a : Addr) (d : Option Addr) (b : Bool) (c : D) : DCa := fun ds M Q => ∃ ns ys, ds = [.exc a d ns ys, c] ∧ Q (.bl b) M
end
end DL
namespace DL
open PySem PySem.Spec PyProof.Rows L2
section
variable {P : Program} {w : World} {K : PySem.W.Frag} {mg : Str → Option Value} {base : Heap}
/-- the rule for a def that has defaults -/
theorem fn_okD {x qual : Str} {st : Stmt} {f : Addr} {fd : FuncData} {N ps : List Str} {k : Nat} {p : DSp} {dvs : List V} (F : FunD K x qual (defArgs st) (defBody st) (defScope st) dvs [] f fd) (S : FnScope N ps (defScope st)) (len : ∀ ds M Q E, p ds M Q E → ds.length = ps.length)
    (hbody : ∀ (cdv : Value) (A : Around) (outer : List Env) (s : Shared) (H : Hp) (E : XK), Room k (A.deeper (PyProof.Rows.envOfC qual (defScope st) s.heap.objs.size f cdv)) →
      Takes (cxOf (L2.CX P w) P w K mg base N qual (defScope st) f cdv A outer s H E) (fun cls d _ H => E cls d H) →
      PassesOwn (model P w) (cxOf (L2.CX P w) P w K mg base N qual (defScope st) f cdv A outer s H E).A (cxOf (L2.CX P w) P w K mg base N qual (defScope st) f cdv A outer s H E).env (cxOf (L2.CX P w) P w K mg base N qual (defScope st) f cdv A outer s H E).xe →
      ∃ t q, QSs (cxOf (L2.CX P w) P w K mg base N qual (defScope st) f cdv A outer s H E) (fun cls d _ H => E cls d H) (defBody st) t q ∧
        ∀ ds M Q Ed, p ds M Q Ed → q (fun x _ M => Ed x M) { nx := fun _ M => Q .non M, rt := Q } (startD N ds) M) : FnOk P w K mg base (L2.CX P w) (k + 1) f fd ps (toSp K p) := by
  refine F.ok S (fun vs H Q E h => ?_) (fun cdv A outer s H vs Q E hr h => ?_)
  · obtain ⟨G, ds, M, Qd, Ed, _, r, _, hp, _⟩ := h
    exact r.length.trans (len _ _ _ _ hp)
  · obtain ⟨G, ds, M, Qd, Ed, e, r, hm, hp, kq, ke⟩ := h
    obtain ⟨t, q, hq, hs⟩ := hbody cdv A outer s H E hr (takes_of rfl rfl rfl rfl) (passes_of rfl)
    exact ⟨t, hq.pe, hq.rf (fun x _ M => Ed x M) G H (startD N ds) M (L2.start N vs) _ _ (fun G' H' p' M' s' x cls dx e1 S1 r1 h1 => ke G' H' x cls dx M' e1 S1.same r1 S1.mem h1) (start_sim e r hm) (hs ds M Qd Ed hp)
      ⟨fun G' H' p' M' s' e1 S1 h1 => kq G' H' .non .non M' e1 S1.same rfl S1.mem h1, fun G' H' p' M' s' d v e1 S1 r1 h1 => kq G' H' v d M' e1 S1.same r1 S1.mem h1, fun _ _ _ _ _ _ _ h => h.elim, fun _ _ _ _ _ _ _ h => h.elim⟩⟩
end
/-- how a call binds that leaves out the last parameters: their defaults -/
def BindsD (K : PySem.W.Frag) (fd : FuncData) (ps : List Str) (dvs : List V) : Prop := ∃ ds, Vals dvs ds ∧ Binds K fd ps ds
section
variable {K : PySem.W.Frag} {x qual : Str} {st : Stmt} {dvs : List V} {f : Addr} {fd : FuncData} {ps : List Str}
/-- n values are written, the defaults behind the first j fill up -/
theorem FunD.bd (F : FunD K x qual (defArgs st) (defBody st) (defScope st) dvs [] f fd) (n j : Nat) (hd : dvs ≠ []) (hn : n + (dvs.length - j) = ps.length)
    (h : ∀ (T : Addr) (kV doc pm : Value) (an : Option Addr) (cdv ct : Value) (us its : List Value), us.length = n → its.length = dvs.length →
      ∃ k, bindArgs (PySem.W.fnOf x qual (defArgs st) (defBody st) (defScope st) (.ref T) kV doc pm an cdv ct) ⟨us, []⟩ = seqItems? (.ref T) >>= k ∧ k (some its.toArray) = pure (ps.zip (us ++ its.drop j))) : BindsD K fd ps (dvs.drop j) :=
  FunD.binds1 F n j hd hn h
theorem kwbD {ks : List Str} {n : Nat} {idx : List Nat} (F : FunD K x qual (defArgs st) (defBody st) (defScope st) dvs [] f fd) (hd : dvs ≠ [])
    (h : ∀ (T : Addr) (kV doc pm : Value) (an : Option Addr) (cdv ct : Value) (us ws its : List Value), us.length = n → ws.length = ks.length → its.length = dvs.length →
      ∃ k, bindArgs (PySem.W.fnOf x qual (defArgs st) (defBody st) (defScope st) (.ref T) kV doc pm an cdv ct) ⟨us, ks.zip ws⟩ = seqItems? (.ref T) >>= k ∧ k (some its.toArray) = pure (ps.zip (pickL idx (us ++ ws)))) : KwB K fd ps n ks idx := by
  obtain ⟨oc, od, dV, kV, doc, pm, an, cdv, ct, osl, rfl, lk, hcd, hD, hK⟩ := F.ex
  rcases hD with ⟨e, _⟩ | ⟨_, T, o, its, m, rfl, lT, oT, rT⟩
  · exact absurd e hd
  · intro s us ws X h1 h2
    obtain ⟨k, e1, e2⟩ := h T kV doc pm an cdv ct us ws its h1 h2 rT.length.symm
    refine BindsTo.of_looks fun M => ?_
    rw [e1]
    exact looks_items X lT oT (.of_pure e2)
theorem fund_mk {oc : Value} {od an : Option Addr} {osl : Array (Option Value)} {kV doc pm cdv ct : Value} {T : Addr} {o : Obj} {its : List Value} {n : Nat} (l : K.lookup f = some ⟨oc, od, .func (PySem.W.fnOf x qual (defArgs st) (defBody st) (defScope st) (.ref T) kV doc pm an cdv ct), osl⟩)
    (c : PySem.W.codeIn K cdv qual = true) (k : PySem.W.keepIn K (.ref f) = true) (lT : K.lookup T = some o) (oT : o.data = .seq its.toArray n) (hd : dvs ≠ []) (r : Vals dvs its) :
    FunD K x qual (defArgs st) (defBody st) (defScope st) dvs [] f (PySem.W.fnOf x qual (defArgs st) (defBody st) (defScope st) (.ref T) kV doc pm an cdv ct) :=
  ⟨⟨oc, od, .ref T, kV, doc, pm, an, cdv, ct, osl, rfl, l, c, .inr ⟨hd, T, o, its, n, rfl, lT, oT, r⟩, .inl rfl⟩, k⟩
end
end DL
namespace DL
open PySem PySem.Spec PyProof.Rows L2
theorem q_cls {X : Cx} {W : WX} {x : Str} {C : Addr} {pos : Pos} (g : X.mg x = some (.ref C)) (hg : Gl X x := by rfl) (hd : (x == ("__debug__" : Str)) = false := by decide) : QE X W (.Name x pos) (tC (.ref C)) (qC (.ref C)) := q_glob hg g rfl (fun _ => rfl) hd
end DL
set_option maxHeartbeats 2000000
namespace DL
open PySem PySem.Spec PyProof.Rows L2
/-- zip of two lists, or of two tuples -/
def qiZipB (qa : DTA) : DTI := fun DW p M R => qiZip qa DW p M R ∨ qiZipT qa DW p M R
theorem qi_orI {X : Cx} {W : WX} {tg e : Expr} {t1 t2 : TI} {q1 q2 : DTI} (h1 : QI X W tg e t1 q1) (h2 : QI X W tg e t2 q2) : QI X W tg e (fun σ H R => t1 σ H R ∨ t2 σ H R) (fun DW p M R => q1 DW p M R ∨ q2 DW p M R) :=
  ⟨⟨fun pins s σ H R I h => h.elim (h1.pe.run pins s σ H R I) (h2.pe.run pins s σ H R I)⟩, fun DW G H p M s R R' hw S h k => h.imp (fun h => h1.rf DW G H p M s R R' hw S h k) fun h => h2.rf DW G H p M s R R' hw S h k⟩
section
variable {X : Cx} {W : WX} {e e2 : Expr} {ta : TA} {qa : DTA} {p pos tpos : Pos} {elts : List Expr} {kk : Nat}
theorem qi_zipB (hg : Gl X "zip") (hm : X.mg "zip" = none) (ha : QA X W [e, e2] ta qa)
    (hs : starEach [e, e2] X.env = (false, eval e X.env) :: starEach [e2] X.env := by rfl) (hpl : (backTo pos (starEach [e2] X.env)).any (·.1) = false := by rfl) :
    QI X W (.Tuple elts kk tpos) (.Call (.Name "zip" p) [e, e2] [] pos) (fun σ H R => iZip X.K ta σ H R ∨ RZ.iZipA X.K ta σ H R) (qiZipB qa) := qi_orI (qi_zip hg hm ha hs hpl) (qi_zipT hg hm ha hs hpl)
end
end DL
namespace DL
open PySem L2
theorem dep_mem : ∀ {ds : List D} {d : D}, d ∈ ds → dep d ≤ PyData.depthAll (pydL ds)
  | [], _, h => by cases h
  | e :: ds, d, h => by
    simp only [pydL, PyData.depthAll]
    rcases List.mem_cons.mp h with rfl | h
    · exact Nat.le_max_left _ _
    · exact Nat.le_trans (dep_mem h) (Nat.le_max_right _ _)
theorem dep_in_tup {ds : List D} {d : D} (h : d ∈ ds) : dep d + 1 ≤ dep (.tup ds) := by
  have := dep_mem h
  simp only [dep, pyd, PyData.depth] at this ⊢; omega
theorem dep_in_lst {ds : List D} {d : D} (h : d ∈ ds) : dep d + 1 ≤ dep (.lst ds) := by
  have := dep_mem h
  simp only [dep, pyd, PyData.depth] at this ⊢; omega
theorem eq_bb {neg : Bool} {x y : Bool} {M : Mst} {Q : DK} : dEq neg (.bl x) (.bl y) M Q = Q (.bl (xor neg (decide (x = y)))) M := by
  unfold dEq
  rw [res_bl, res_bl, deq_bl]
  have h1 : isData (.bl x) = true := rfl
  have h2 : isData (.bl y) = true := rfl
  have h3 : min (dep (.bl x)) (dep (.bl y)) ≤ 64 := by simp [dep, pyd, PyData.depth]
  simp [h1, h2, h3]
end DL
namespace Tx21
open PySem L2 DL PyProof.Rows Tx20
def Pr (x : Str) : Prop := ∀ c ∈ x.cps.toList, 32 ≤ c ∧ c ≤ 126
theorem Pr.asc {x : Str} (h : Pr x) : Asc x := fun c hc => by have := h c hc; omega
theorem pr_app {a b : Str} (ha : Pr a) (hb : Pr b) : Pr (a ++ b) := fun c hc => by
  rw [PySem.Str.cps_append, Array.toList_append, List.mem_append] at hc
  exact hc.elim (ha c) (hb c)
theorem pr_one {c : Nat} (h : 32 ≤ c ∧ c ≤ 126) : Pr ⟨#[c]⟩ := fun d hd => by simp at hd; subst hd; exact h
theorem pr_empty : Pr Str.empty := fun d hd => by simp [Str.empty] at hd
theorem pr_ok {x : Str} (h : Pr x) (hl : x.length ≤ 100000) : okS x := ok_asc h.asc hl
abbrev sp1 : Str := ⟨#[32]⟩
end Tx21
namespace DL
open PySem L2 Tx20 Tx21
abbrev lit (s : String) : Str := PySem.Str.ofString s
abbrev one (c : Nat) : Str := ⟨#[c]⟩
abbrev stL (ws : List Str) : D := .lst (ws.map .str)
section
variable {M : Mst} {Q : DK}
@[simp] theorem z_isi_int_int {i} : dIsi [.int i, .ty "int"] M Q = Q (.bl true) M := isi_one rfl (show isiB "int" "int" = some true by decide +kernel)
@[simp] theorem z_isi_int_bool {i} : dIsi [.int i, .ty "bool"] M Q = Q (.bl false) M := isi_one rfl (show isiB "int" "bool" = some false by decide +kernel)
@[simp] theorem z_isi_int_str {i} : dIsi [.int i, .ty "str"] M Q = Q (.bl false) M := isi_one rfl (show isiB "int" "str" = some false by decide +kernel)
@[simp] theorem z_isi_int_tup {i} : dIsi [.int i, .ty "tuple"] M Q = Q (.bl false) M := isi_one rfl (show isiB "int" "tuple" = some false by decide +kernel)
@[simp] theorem z_isi_int_lst {i} : dIsi [.int i, .ty "list"] M Q = Q (.bl false) M := isi_one rfl (show isiB "int" "list" = some false by decide +kernel)
@[simp] theorem z_isi_bl_int {i} : dIsi [.bl i, .ty "int"] M Q = Q (.bl true) M := isi_one rfl (show isiB "bool" "int" = some true by decide +kernel)
@[simp] theorem z_isi_bl_bool {i} : dIsi [.bl i, .ty "bool"] M Q = Q (.bl true) M := isi_one rfl (show isiB "bool" "bool" = some true by decide +kernel)
@[simp] theorem z_isi_bl_str {i} : dIsi [.bl i, .ty "str"] M Q = Q (.bl false) M := isi_one rfl (show isiB "bool" "str" = some false by decide +kernel)
@[simp] theorem z_isi_bl_tup {i} : dIsi [.bl i, .ty "tuple"] M Q = Q (.bl false) M := isi_one rfl (show isiB "bool" "tuple" = some false by decide +kernel)
@[simp] theorem z_isi_bl_lst {i} : dIsi [.bl i, .ty "list"] M Q = Q (.bl false) M := isi_one rfl (show isiB "bool" "list" = some false by decide +kernel)
@[simp] theorem z_isi_str_int {i} : dIsi [.str i, .ty "int"] M Q = Q (.bl false) M := isi_one rfl (show isiB "str" "int" = some false by decide +kernel)
@[simp] theorem z_isi_str_bool {i} : dIsi [.str i, .ty "bool"] M Q = Q (.bl false) M := isi_one rfl (show isiB "str" "bool" = some false by decide +kernel)
@[simp] theorem z_isi_str_str {i} : dIsi [.str i, .ty "str"] M Q = Q (.bl true) M := isi_one rfl (show isiB "str" "str" = some true by decide +kernel)
@[simp] theorem z_isi_str_tup {i} : dIsi [.str i, .ty "tuple"] M Q = Q (.bl false) M := isi_one rfl (show isiB "str" "tuple" = some false by decide +kernel)
@[simp] theorem z_isi_str_lst {i} : dIsi [.str i, .ty "list"] M Q = Q (.bl false) M := isi_one rfl (show isiB "str" "list" = some false by decide +kernel)
@[simp] theorem z_isi_non_int : dIsi [.non, .ty "int"] M Q = Q (.bl false) M := isi_one rfl (show isiB "NoneType" "int" = some false by decide +kernel)
@[simp] theorem z_isi_non_bool : dIsi [.non, .ty "bool"] M Q = Q (.bl false) M := isi_one rfl (show isiB "NoneType" "bool" = some false by decide +kernel)
@[simp] theorem z_isi_non_str : dIsi [.non, .ty "str"] M Q = Q (.bl false) M := isi_one rfl (show isiB "NoneType" "str" = some false by decide +kernel)
@[simp] theorem z_isi_non_tup : dIsi [.non, .ty "tuple"] M Q = Q (.bl false) M := isi_one rfl (show isiB "NoneType" "tuple" = some false by decide +kernel)
@[simp] theorem z_isi_non_lst : dIsi [.non, .ty "list"] M Q = Q (.bl false) M := isi_one rfl (show isiB "NoneType" "list" = some false by decide +kernel)
@[simp] theorem z_isi_tup_int {i} : dIsi [.tup i, .ty "int"] M Q = Q (.bl false) M := isi_one rfl (show isiB "tuple" "int" = some false by decide +kernel)
@[simp] theorem z_isi_tup_bool {i} : dIsi [.tup i, .ty "bool"] M Q = Q (.bl false) M := isi_one rfl (show isiB "tuple" "bool" = some false by decide +kernel)
@[simp] theorem z_isi_tup_str {i} : dIsi [.tup i, .ty "str"] M Q = Q (.bl false) M := isi_one rfl (show isiB "tuple" "str" = some false by decide +kernel)
@[simp] theorem z_isi_tup_tup {i} : dIsi [.tup i, .ty "tuple"] M Q = Q (.bl true) M := isi_one rfl (show isiB "tuple" "tuple" = some true by decide +kernel)
@[simp] theorem z_isi_tup_lst {i} : dIsi [.tup i, .ty "list"] M Q = Q (.bl false) M := isi_one rfl (show isiB "tuple" "list" = some false by decide +kernel)
@[simp] theorem z_isi_lst_int {i} : dIsi [.lst i, .ty "int"] M Q = Q (.bl false) M := isi_one rfl (show isiB "list" "int" = some false by decide +kernel)
@[simp] theorem z_isi_lst_bool {i} : dIsi [.lst i, .ty "bool"] M Q = Q (.bl false) M := isi_one rfl (show isiB "list" "bool" = some false by decide +kernel)
@[simp] theorem z_isi_lst_str {i} : dIsi [.lst i, .ty "str"] M Q = Q (.bl false) M := isi_one rfl (show isiB "list" "str" = some false by decide +kernel)
@[simp] theorem z_isi_lst_tup {i} : dIsi [.lst i, .ty "tuple"] M Q = Q (.bl false) M := isi_one rfl (show isiB "list" "tuple" = some false by decide +kernel)
@[simp] theorem z_isi_lst_lst {i} : dIsi [.lst i, .ty "list"] M Q = Q (.bl true) M := isi_one rfl (show isiB "list" "list" = some true by decide +kernel)
@[simp] theorem z_len_str {z : Str} : dLen [.str z] M Q = Q (.int z.length) M := by simp [dLen]
@[simp] theorem z_len_tup {ds : List D} : dLen [.tup ds] M Q = Q (.int ds.length) M := by simp [dLen]
@[simp] theorem z_len_xtp {ds : List D} : dLen [.xtp ds] M Q = Q (.int ds.length) M := by simp [dLen]
@[simp] theorem z_len_ktp {ds : List D} : dLen [.ktp ds] M Q = Q (.int ds.length) M := by simp [dLen]
@[simp] theorem z_add_str {m : Bool} {x y : Str} : dAdd m (.str x) (.str y) M Q = (x.length + y.length ≤ 100000 ∧ Q (.str (x ++ y)) M) := rfl
@[simp] theorem z_add_tup {m : Bool} {x y : List D} : dAdd m (.tup x) (.tup y) M Q = (x.length + y.length ≤ 100000 ∧ Q (.tup (x ++ y)) M) := rfl
@[simp] theorem z_eq_int {i j : Int} : dEq false (.int i) (.int j) M Q = Q (.bl (decide (i = j))) M := by rw [eq_int, Bool.false_xor]
@[simp] theorem z_ne_int {i j : Int} : dEq true (.int i) (.int j) M Q = Q (.bl (!decide (i = j))) M := by rw [eq_int, Bool.true_xor]
@[simp] theorem z_eq_str {i j : Str} : dEq false (.str i) (.str j) M Q = Q (.bl (decide (i = j))) M := by rw [eq_str, Bool.false_xor]
@[simp] theorem z_ne_str {i j : Str} : dEq true (.str i) (.str j) M Q = Q (.bl (!decide (i = j))) M := by rw [eq_str, Bool.true_xor]
@[simp] theorem z_eq_bl {i j : Bool} : dEq false (.bl i) (.bl j) M Q = Q (.bl (decide (i = j))) M := by rw [eq_bb, Bool.false_xor]
@[simp] theorem z_ne_bl {i j : Bool} : dEq true (.bl i) (.bl j) M Q = Q (.bl (!decide (i = j))) M := by rw [eq_bb, Bool.true_xor]
@[simp] theorem z_is {x : D} : dIs false x .non M Q = Q (.bl (isNon x)) M := by cases h : isNon x <;> simp [dIs, h]
@[simp] theorem z_isnot {x : D} : dIs true x .non M Q = Q (.bl (!isNon x)) M := by cases h : isNon x <;> simp [dIs, h]
@[simp] theorem z_neg {i : Int} : dNeg (.int i) M Q = Q (.int (-i)) M := rfl
@[simp] theorem z_inS {neg : Bool} {c z : Str} : dIn neg (.str c) (.str z) M Q = Q (.bl (xor neg (inS c z))) M := rfl
@[simp] theorem z_intX_i {i : Int} : dIntX [.int i] M Q = Q (.int i) M := rfl
@[simp] theorem z_intX_b {b : Bool} : dIntX [.bl b] M Q = Q (.int (if b = true then 1 else 0)) M := by cases b <;> rfl
theorem in_strs {neg : Bool} {z : Str} {zs : List Str} : dIn neg (.str z) (.lst (zs.map .str)) M Q = Q (.bl (xor neg (decide (z ∈ zs)))) M := by
  unfold dIn
  have a : (zs.map D.str).any (fun e => deq e (.str z)) = decide (z ∈ zs) := by
    rw [List.any_map]
    induction zs with
    | nil => simp
    | cons y ys ih => simp only [List.any_cons, ih, Function.comp, deq_str, List.mem_cons]; simp [eq_comm]
  have f : (zs.map D.str).all flatD = true := by rw [List.all_map, List.all_eq_true]; intro x _; rfl
  simp only [dgetD, res_lst, a, f, show flatD (.str z) = true from rfl, true_and]
@[simp] theorem z_ix_l0 {d : D} {ds : List D} : dIx (.lst (d :: ds)) (.int 0) M Q = Q d M := ix_l atI_0
@[simp] theorem z_ix_t0 {d : D} {ds : List D} : dIx (.tup (d :: ds)) (.int 0) M Q = Q d M := ix_t atI_0
@[simp] theorem z_ix_t1 {d e : D} {ds : List D} : dIx (.tup (d :: e :: ds)) (.int 1) M Q = Q e M := ix_t atI_1
@[simp] theorem z_ix_l1 {d e : D} {ds : List D} : dIx (.lst (d :: e :: ds)) (.int 1) M Q = Q e M := ix_l atI_1
theorem pick_l {ds : List D} {r : Int} (h0 : 0 ≤ r) (h1 : r < ds.length) (h : ∀ d ∈ ds, Q d M) : dIx (.lst ds) (.int r) M Q := by
  obtain ⟨x, hx, hm⟩ := atI_some h0 h1
  rw [ix_l hx]; exact h x hm
theorem pick_t {ds : List D} {r : Int} (h0 : 0 ≤ r) (h1 : r < ds.length) (h : ∀ d ∈ ds, Q d M) : dIx (.tup ds) (.int r) M Q := by
  obtain ⟨x, hx, hm⟩ := atI_some h0 h1
  rw [ix_t hx]; exact h x hm
theorem pick_s {z : Str} {r : Int} (h0 : 0 ≤ r) (h1 : r < z.length) (h : ∀ c ∈ z.cps.toList, Q (.str (one c)) M) : dIx (.str z) (.int r) M Q := by
  obtain ⟨x, hx, hm⟩ := atI_some (xs := z.cps.toList) h0 (by rw [Array.length_toList]; exact h1)
  unfold dIx
  simp only [dgetD, res_str, hx]
  exact h x hm
theorem ix_strs {ws : List Str} {i : Nat} {w : Str} (h : ws[i]? = some w) : dIx (stL ws) (.int (i : Int)) M Q = Q (.str w) M :=
  ix_l (by rw [atI_n, List.getElem?_map, h]; rfl)
theorem take_call {b : Addr} {n : Int} {E : DX → Mst → Prop} (hb : M b = some .bag) (h0 : 0 < n) (h1 : n < 1073741824) (h : ∀ r : Int, 0 ≤ r → r < n → Q (.int r) M) : spTake [.ref b, .int n] M Q E := ⟨b, n, rfl, hb, h0, h1, h⟩
end
theorem ne_of_some {M : Mst} {a b : Addr} {o : MO} (h : M a = some o) (g : M b = none) : a ≠ b := fun e => by rw [e, g] at h; cases h
theorem put_keep {M : Mst} {a b : Addr} {o u : MO} (h : M a = some o) (g : M b = none) : put M b u a = some o := by rw [put_ne (ne_of_some h g)]; exact h
theorem range_at {n : Nat} {i : Nat} {d : D} (h : (rangeD 0 n)[i]? = some d) : i < n ∧ d = .int (i : Int) := by
  have h1 := (List.getElem?_eq_some_iff.mp h).1
  have hi : i < n := by simpa [rangeD] using h1
  refine ⟨hi, ?_⟩
  simp [rangeD, hi] at h; exact h.symm
@[simp] theorem rangeD_len {lo : Int} {n : Nat} : (rangeD lo n).length = n := by simp [rangeD]
theorem glue_ones : ∀ (r : List Nat) (acc : Array Nat), (r.map one).foldl (fun acc (p : Str) => acc ++ (lit "").cps ++ p.cps) acc = acc ++ r.toArray
  | [], acc => by simp
  | c :: r, acc => by
    rw [List.map_cons, List.foldl_cons, glue_ones r, show (lit "").cps = #[] by decide +kernel]
    apply Array.toList_inj.mp; simp
theorem join_ones (cs : List Nat) : Txt.join (lit "") (cs.map one) = ⟨cs.toArray⟩ := by
  unfold Txt.join Builtin.Str.glued
  cases cs with
  | nil => rfl
  | cons c r =>
    simp only [List.map_cons, List.drop_succ_cons, List.drop_zero, List.headD_cons]
    rw [glue_ones]
    congr 1
    apply Array.toList_inj.mp; simp
theorem ones_sum (cs : List Nat) : ((cs.map one).map (·.length)).sum = cs.length := by
  induction cs with
  | nil => rfl
  | cons c r ih => simp only [List.map_cons, List.sum_cons, ih, List.length_cons]; show 1 + _ = _; omega
/-- ''.join(signs drawn) -/
theorem join_signs {cs : List Nat} {M : Mst} {Q : DK} (hp : ∀ c ∈ cs, c < 55296) (hl : cs.length ≤ 100000) (h : Q (.str ⟨cs.toArray⟩) M) : mJoin (.str (lit "")) [.lst ((cs.map one).map .str)] M Q := by
  have e0 : (lit "").length = 0 := by decide +kernel
  simp only [mJoin, res_str, res_lst, strsD_map, join_ones, ones_sum, e0]
  refine ⟨by simp; exact hl, ⟨by show cs.toArray.size ≤ 100000; simpa using hl, ?_⟩, h⟩
  unfold PyData.strOk
  rw [← Array.all_toList, List.all_eq_true]
  intro c hc
  have := hp c (by simpa using hc)
  exact decide_eq_true (by omega)
structure Tx_ (n : Nat) (x : Str) : Prop where
  pr : Pr x
  len : x.length ≤ n
theorem Tx_.ok {n : Nat} {x : Str} (h : Tx_ n x) (hn : n ≤ 100000) : okS x := pr_ok h.pr (Nat.le_trans h.len hn)
theorem Tx_.mono {n m : Nat} {x : Str} (h : Tx_ n x) (hn : n ≤ m) : Tx_ m x := ⟨h.pr, Nat.le_trans h.len hn⟩
theorem Tx_.app {n m : Nat} {x y : Str} (h : Tx_ n x) (g : Tx_ m y) : Tx_ (n + m) (x ++ y) := ⟨pr_app h.pr g.pr, by rw [len_append]; have := h.len; have := g.len; omega⟩
def txB (n : Nat) (x : Str) : Bool := decide (x.length ≤ n) && x.cps.toList.all fun c => decide (32 ≤ c) && decide (c ≤ 126)
theorem tx_of {n : Nat} {x : Str} (h : txB n x = true) : Tx_ n x := by
  unfold txB at h
  rw [Bool.and_eq_true, decide_eq_true_eq, List.all_eq_true] at h
  exact ⟨fun c hc => by simpa using h.2 c hc, h.1⟩
theorem sum_le {m : Nat} : ∀ ys : List Str, (∀ y ∈ ys, y.length ≤ m) → (ys.map (·.length)).sum ≤ ys.length * m
  | [], _ => by simp
  | y :: r, h => by
    have h1 := sum_le r fun z hz => h z (List.mem_cons_of_mem _ hz)
    have h2 := h y (List.mem_cons_self ..)
    simp only [List.map_cons, List.sum_cons, List.length_cons, Nat.add_mul, Nat.one_mul]; omega
theorem pr_join {sep : Str} (hs : Pr sep) : ∀ ys : List Str, (∀ y ∈ ys, Pr y) → Pr (Str.join sep ys)
  | [], _ => pr_empty
  | [x], h => h x (List.mem_singleton.mpr rfl)
  | x :: y :: r, h => by
    have h1 := pr_join hs (y :: r) fun z hz => h z (List.mem_cons_of_mem _ hz)
    exact pr_app (pr_app (h x (List.mem_cons_self ..)) hs) h1
theorem join_len (sep : Str) : ∀ ys : List Str, (Str.join sep ys).length ≤ (ys.map (·.length)).sum + ys.length * sep.length
  | [] => by simp [Str.join, Str.empty, Str.length]
  | [x] => by simp [Str.join]
  | x :: y :: r => by
    have := join_len sep (y :: r)
    show (x ++ sep ++ Str.join sep (y :: r)).length ≤ _
    rw [len_append, len_append]
    simp only [List.map_cons, List.sum_cons, List.length_cons] at this ⊢
    have e : (r.length + 1 + 1) * sep.length = (r.length + 1) * sep.length + sep.length := by rw [Nat.add_mul, Nat.one_mul]
    omega
theorem tx_join {sep : Str} {ys : List Str} {n : Nat} (hs : Pr sep) (h : ∀ y ∈ ys, Pr y) (hl : (ys.map (·.length)).sum + ys.length * sep.length ≤ n) : Tx_ n (Txt.join sep ys) := by
  rw [TL.join_eq]
  exact ⟨pr_join hs ys h, Nat.le_trans (join_len sep ys) hl⟩
def wt (ys : List Str) : Nat := (ys.map (·.length)).sum + ys.length
theorem wt_app (xs ys : List Str) : wt (xs ++ ys) = wt xs + wt ys := by simp [wt]; omega
theorem wt_one (x : Str) : wt [x] = x.length + 1 := by simp [wt]
theorem spl_sp : PySem.Str.ofString " " = sp1 := by decide +kernel
/-- ' '.join(texts) -/
theorem join_sp1 {ys : List Str} {n : Nat} {x : D} {M : Mst} {Q : DK} (hx : res M x = .lst (ys.map .str)) (h : ∀ y ∈ ys, Pr y) (hl : wt ys ≤ n) (hn : n ≤ 100000) (k : Tx_ n (Txt.join sp1 ys) → Q (.str (Txt.join sp1 ys)) M) : mJoin (.str (PySem.Str.ofString " ")) [x] M Q := by
  rw [spl_sp]
  have hs : Pr sp1 := pr_one (by decide)
  have hl' : (ys.map (·.length)).sum + ys.length * sp1.length ≤ n := by
    have e1 : sp1.length = 1 := rfl
    rw [e1, Nat.mul_one]; exact hl
  simp only [mJoin, res_str, hx, strsD_map]
  have T := tx_join hs h hl'
  exact ⟨Nat.le_trans hl' hn, T.ok hn, k T⟩
end DL
namespace DL
open PySem L2
theorem lookup_zip {α : Type} {f : Str} : ∀ {fs : List Str} {i : Nat}, fs.findIdx? (fun z => z == f) = some i → ∀ {ns : List Str} {ds : List α} {y : α}, ns = fs.take ns.length → ds.length = ns.length → ds[i]? = some y → (ns.zip ds).lookup f = some y
  | [], i, h, _, _, _, _, _, _ => by simp at h
  | g :: fs, i, h, ns, ds, y, e, l, hy => by
    cases ns with
    | nil =>
      have : ds = [] := List.eq_nil_of_length_eq_zero (by simpa using l)
      subst this; simp at hy
    | cons n ns =>
      cases ds with
      | nil => simp at l
      | cons d ds =>
        simp only [List.length_cons, List.take_succ_cons, List.cons.injEq] at e
        obtain ⟨rfl, e⟩ := e
        rw [List.findIdx?_cons] at h
        show List.lookup f ((n, d) :: ns.zip ds) = some y
        by_cases hn : (n == f) = true
        · rw [if_pos hn] at h
          cases h
          have hf : (f == n) = true := by rw [beq_iff_eq] at hn ⊢; exact hn.symm
          rw [List.lookup_cons, hf]
          simpa using hy
        · rw [if_neg hn] at h
          obtain ⟨j, hj, rfl⟩ := Option.map_eq_some_iff.mp h
          have hf : (f == n) = false := by
            rw [Bool.eq_false_iff]; intro z; rw [beq_iff_eq] at z; exact hn (by rw [beq_iff_eq]; exact z.symm)
          rw [List.lookup_cons, hf]
          exact lookup_zip hj e (by simpa using l) (by simpa using hy)
theorem lookup_none {α : Type} {f : Str} {fs ns : List Str} {ds : List α} (h : f ∉ fs) (e : ns = fs.take ns.length) : (ns.zip ds).lookup f = none := by
  rw [List.lookup_eq_none_iff]
  intro p hp
  have hm : p.1 ∈ ns := (List.of_mem_zip (show (p.1, p.2) ∈ ns.zip ds from hp)).1
  rw [e] at hm
  have := List.mem_of_mem_take hm
  rw [bne_iff_ne]
  intro z
  exact h (z ▸ this)
/-- what an instance's fields are now -/
def insD (M : Mst) (x : D) : Option (Addr × List Str × List D) := match res M x with
  | .ins C ns ds => some (C, ns, ds)
  | _ => none
theorem as_insD {K : PySem.W.Frag} {G H : Hp} {p : Rho} {M : Mst} {s : L2.St} {x : D} {v : V} {C : Addr} {ns : List Str} {ds : List D} (S : Sim K G H p M s) (r : Rep K G x v) (h : insD M x = some (C, ns, ds)) :
    ∃ a dx fv, v = .ref a ∧ H a = some (.ins C dx fv) ∧ fv.map (·.1) = ns ∧ RepL K G ds (fv.map (·.2)) := by
  unfold insD at h
  split at h
  · next e => cases h; exact as_ins S r e
  · cases h
/-- e.f, the field at place i of fs -/
def qFld (C : Addr) (fs : List Str) (i : Nat) (qe : DTE) : DTE := fun DW p M Q => qe DW p M fun x M1 => match insD M1 x with
  | some (C', ns, ds) => C' = C ∧ ns = fs.take ns.length ∧ match ds[i]? with
    | some y => Q y M1
    | none => False
  | none => False
section
variable {X : Cx} {W : WX} {e o : Expr} {te to : TE} {qe qo : DTE} {f : Str} {pos pos' : Pos} {C : Addr} {fs : List Str} {i : Nat}
theorem q_fld (cl : Cls X.K C) (n : NoAttr X.K C f) (he : QE X W e te qe) (hi : fs.findIdx? (fun z => z == f) = some i) (hb : attributeBase e f X.env (eval e X.env) = eval e X.env := by rfl) :
    QE X W (.Attribute e f pos) (tFld X.K te f) (qFld C fs i qe) :=
  ⟨pe_fld he.pe hb, fun DW G H p M s Q Q' hw S h k => he.rf DW G H p M s _ _ hw S h fun G1 H1 M1 x v e1 S1 r1 h1 => by
    split at h1
    · next C' ns ds eo =>
      obtain ⟨rfl, hn, h1⟩ := h1
      obtain ⟨a, dx, fv, rfl, g1, g2, g3⟩ := as_insD S1 r1 eo
      split at h1
      · next y ey =>
        obtain ⟨w, ew, rw_⟩ := g3.get ey
        refine ⟨a, C', dx, fv, w, rfl, g1, cl, n, ?_, k G1 H1 M1 y w e1 S1 rw_ h1⟩
        have hl := g3.length
        have hln : (fv.map (·.2)).length = ns.length := by rw [← g2]; simp
        have := lookup_zip (ds := fv.map (·.2)) hi hn hln ew
        rw [← g2, zip_fs] at this
        exact this
      · exact h1.elim
    · exact h1.elim⟩
end
/-- o.f = e: the field at place i of fs -/
def setAt (i : Nat) (f : Str) (y : D) (cur : List (Str × D)) : List (Str × D) := if i < cur.length then cur.set i (f, y) else cur ++ [(f, y)]
def qSetF (C : Addr) (fs : List Str) (i : Nat) (f : Str) (qo qe : DTE) : DTS := fun DW DE p M => qe DW p M fun y M1 => qo DW p M1 fun x M2 => match x with
  | .ref a => match M2 a with
    | some (.ins C' cur) => C' = C ∧ cur.map (·.1) = fs.take cur.length ∧ i ≤ cur.length ∧ fs.length < 900 ∧ DE.nx p (put M2 a (.ins C (setAt i f y cur)))
    | _ => False
  | _ => False
theorem putF_names {f : Str} {y : V} : ∀ {cur : List (Str × V)} {fs : List Str} {i : Nat}, fs.findIdx? (fun z => z == f) = some i → cur.map (·.1) = fs.take cur.length → i ≤ cur.length →
    putF f y cur = if i < cur.length then cur.set i (f, y) else cur ++ [(f, y)]
  | [], fs, i, h, e, hi => by
    have : i = 0 := by simpa using hi
    subst this; rfl
  | (g, x) :: r, [], i, h, e, hi => by simp at h
  | (g, x) :: r, n :: fs, i, h, e, hi => by
    simp only [List.map_cons, List.length_cons, List.take_succ_cons, List.cons.injEq] at e
    obtain ⟨e0, e⟩ := e
    subst e0
    rw [List.findIdx?_cons] at h
    show (if g = f then (g, y) :: r else (g, x) :: putF f y r) = _
    by_cases hn : g = f
    · rw [if_pos (by rw [beq_iff_eq]; exact hn)] at h
      cases h
      subst hn
      rw [if_pos rfl, if_pos (by simp)]
      rfl
    · rw [if_neg (by rw [beq_iff_eq]; exact hn)] at h
      obtain ⟨j, hj, rfl⟩ := Option.map_eq_some_iff.mp h
      rw [if_neg hn, putF_names hj e (by simpa using hi)]
      simp only [List.length_cons, Nat.add_lt_add_iff_right, List.set_cons_succ]
      split <;> rfl
theorem take_le_len {α β : Type} {cur : List α} {g : α → β} {fs : List β} (e : cur.map g = fs.take cur.length) : cur.length ≤ fs.length := by
  have := congrArg List.length e
  simp at this; omega
section
variable {X : Cx} {W : WX} {e o : Expr} {te to : TE} {qe qo : DTE} {f : Str} {pos pos' : Pos} {C : Addr} {fs : List Str} {i : Nat}
theorem map_set_fst {α β : Type} {l : List (α × β)} {i : Nat} {q : α × β} : (l.set i q).map (·.1) = (l.map (·.1)).set i q.1 := by rw [List.map_set]
theorem qs_setF (cl : Cls X.K C) (n : NoAttr X.K C f) (ho : QE X W o to qo) (he : QE X W e te qe) (hi : fs.findIdx? (fun z => z == f) = some i) (hs : swapsWith e (some (.Attribute o f pos')) pos.line X.env = pure false := by rfl) :
    QS X W (.Assign [.Attribute o f pos'] e pos) (sFld X.K to te f) (qSetF C fs i f qo qe) :=
  ⟨ps_fld ho.pe he.pe hs, fun DW G H p M s DE E hw S h k => he.rf DW G H p M s _ _ hw S h fun G1 H1 M1 y v e1 S1 r1 h1 => ho.rf DW G1 H1 p M1 s _ _ (hw.mono e1) S1 h1 fun G2 H2 M2 x u e2 S2 r2 h2 => by
    split at h2
    · next a =>
      cases r2
      split at h2
      · next C' cur em =>
        obtain ⟨rfl, hn, hl, hf, h2⟩ := h2
        obtain ⟨gn, dx, fv, g1, g2, g3⟩ := S2.mem _ _ em
        have len : fv.length = cur.length := by have := congrArg List.length g2; simpa using this
        have hle := take_le_len hn
        have hn' : fv.map (·.1) = fs.take fv.length := by rw [g2, hn, len]
        refine ⟨a, C', dx, fv, rfl, g1, cl, n, by omega, ?_⟩
        have pf : putF f v fv = if i < fv.length then fv.set i (f, v) else fv ++ [(f, v)] := putF_names hi hn' (by omega)
        have rm : RepM X.K G2 (upd H2 a (.ins C' dx (putF f v fv))) a (.ins C' (setAt i f y cur)) := by
          refine ⟨dx, _, upd_same, ?_, ?_⟩
          · rw [pf]; unfold setAt
            rw [len]
            by_cases hc : i < cur.length
            · rw [if_pos hc, if_pos hc, map_set_fst, map_set_fst, g2]
            · rw [if_neg hc, if_neg hc, List.map_append, List.map_append, g2]; rfl
          · rw [pf]; unfold setAt
            rw [len]
            have r1' := Rep.mono e2 _ _ r1
            by_cases hc : i < cur.length
            · rw [if_pos hc, if_pos hc, List.map_set, List.map_set]
              exact g3.set i r1'
            · rw [if_neg hc, if_neg hc, List.map_append, List.map_append]
              exact g3.append (RepL.cons r1' rfl)
        exact k.nx G2 _ p _ s (e1.trans e2) (S2.put gn rm) h2
      · exact h2.elim
    · exact h2.elim⟩
end
def tMethSD (C : Addr) (m : Str) (sp : Sp) (dvs : List V) (E : L2.St → XK) (ta : TE) (t : TA) : TE := fun σ H Q => ta σ H fun x H1 => ∃ a dx fs, x = .ref a ∧ H1 a = some (.ins C dx fs) ∧ fs.lookup m = none ∧
  t σ H1 fun vs H2 => sp (x :: (vs ++ dvs)) H2 Q (E σ)
def isObj (M : Mst) (x : D) (C : Addr) (fs : List Str) : Prop := match insD M x with
  | some (C', ns, _) => C' = C ∧ ns = fs.take ns.length
  | none => False
def qMeth (C : Addr) (fs : List Str) (P : DSp) (dds : List D) (qo : DTE) (qa : DTA) : DTE := fun DW p M Q => qo DW p M fun x M1 => isObj M1 x C fs ∧ qa DW p M1 fun ds M2 => P (x :: (ds ++ dds)) M2 Q fun z M3 => DW z p M3
section
variable {X : Cx} {W : WX} {k n : Nat} {C f : Addr} {fd : FuncData} {fs ps ks : List Str} {P : DSp} {dds : List D} {dvs : List V} {ds : List Value} {x m : Str} {p pos apos : Pos} {e o : Expr} {es : List Expr} {kws : List Keyword} {to : TE} {qo : DTE} {t tk : TA} {q qk : DTA} {idx : List Nat}
theorem obj_at {K : PySem.W.Frag} {G H : Hp} {p : Rho} {M : Mst} {s : L2.St} {x : D} {v : V} (S : Sim K G H p M s) (r : Rep K G x v) (h : isObj M x C fs) (hm : m ∉ fs) : ∃ a dx fv, v = .ref a ∧ H a = some (.ins C dx fv) ∧ fv.lookup m = none := by
  unfold isObj at h
  split at h
  · next C' ns ds eo =>
    obtain ⟨rfl, hn⟩ := h
    obtain ⟨a, dx, fv, rfl, g1, g2, g3⟩ := as_insD S r eo
    refine ⟨a, dx, fv, rfl, g1, ?_⟩
    have := lookup_none (ds := fv.map (·.2)) hm hn
    rw [← g2, zip_fs] at this
    exact this
  · exact h.elim
theorem ref_meth {K : PySem.W.Frag} (ho : RefE K W to qo) (ha : RefA K W t q) (hm : m ∉ fs) (hd : ∀ G, RepL K G dds dvs) : RefE K W (tMethSD C m (toSp K P) dvs (fun s => WE W s) to t) (qMeth C fs P dds qo q) :=
  fun DW G H p M s Q Q' hw S h k => ho DW G H p M s _ _ hw S h fun G1 H1 M1 x v e1 S1 r1 ⟨ob, h1⟩ => by
    obtain ⟨a, dx, fv, rfl, g1, g2⟩ := obj_at S1 r1 ob hm
    refine ⟨a, dx, fv, rfl, g1, g2, ha DW G1 H1 p M1 s _ _ (hw.mono e1) S1 h1 fun G2 H2 M2 as vs e2 S2 r2 h2 => ?_⟩
    exact toSp_at (hw.mono (e1.trans e2)) S2 (RepL.cons (Rep.mono e2 _ _ r1) (RepL.append r2 (hd _))) h2 fun G' H' M' d v e3 => k G' H' M' d v ((e1.trans e2).trans e3)
/-- o.m() -/
theorem q_meth0 {pl : Sem Bool} (cl : Cls X.K C) (hm : Meth X.K C m f) (F : FnOk X.prog X.w X.K X.mg X.base (L2.CX X.prog X.w) k f fd ps (toSp X.K P)) (hr : Room k X.A) (tk : Takes X W) (hb : Binds X.K fd ps ds) (hd : Vals dvs ds) (hdd : ∀ G, RepL X.K G dds dvs)
    (ho : QE X W o to qo) (hmf : m ∉ fs)
    (ht : eval (.Call (.Attribute o m apos) [] [] pos) X.env = (do
      let ov ← eval o X.env
      standAt apos.atName
      let (f, first) ← holding [ov] (getMethod ov m pl)
      callWith pos f first (backTo pos (starEach [] X.env)) (backToKw pos (keywordEach [] X.env))) := by rfl) :
    QE X W (.Call (.Attribute o m apos) [] [] pos) (tMethSD C m (toSp X.K P) dvs (fun s => WE W s) to tNil) (qMeth C fs P dds qo qNil) := by
  refine ⟨⟨fun pins s σ H Q I h => ?_⟩, ref_meth ho.rf (qa_nil (X := X) (W := W)).rf hmf hdd⟩
  refine PySem.W.methodCall_KW (pl := pl) (thn (ho.pe.run pins s σ H _ I h) fun u s1 ⟨x, H1, I1, rx, a, dx, fv, ex, ea, l, q⟩ => ?_) ht
  subst ex
  obtain rfl : u = Value.ref a := rx
  refine getmeth_ok I1 ea cl hm l ?_
  exact PySem.W.callWith_K0 (first := [.ref a]) I1.kIn hm.kp (run_fnSD (us := [.ref a]) (vs := [.ref a]) (E := fun s => WE W s) F hr hb hd (passAt tk σ) I1 (.cons rfl .nil) q)
end
def tMakeSD (C : Addr) (sp : Sp) (dvs : List V) (E : L2.St → XK) (t : TA) : TE := fun σ H Q => t σ H fun vs H1 => ∀ x dx, H1 x = none → H1 dx = none → dx ≠ x →
  sp (.ref x :: (vs ++ dvs)) (upd (upd H1 dx (.own x)) x (.ins C dx [])) (fun v H2 => v = .non ∧ Q (.ref x) H2) (E σ)
def qMake (C : Addr) (P : DSp) (dds : List D) (qa : DTA) : DTE := fun DW p M Q => qa DW p M fun ds M1 => ∀ a, M1 a = none → P (.ref a :: (ds ++ dds)) (put M1 a (.ins C [])) (fun d M2 => d = .non ∧ Q (.ref a) M2) fun z M3 => DW z p M3
def qMakeKw (C : Addr) (n m : Nat) (P : DSp) (idx : List Nat) (qa qk : DTA) : DTE := fun DW p M Q => qa DW p M fun ds M1 => qk DW p M1 fun zs M2 => ds.length + 1 = n ∧ zs.length = m ∧ ∀ a, M2 a = none → P (pickL idx (.ref a :: ds ++ zs)) (put M2 a (.ins C [])) (fun d M3 => d = .non ∧ Q (.ref a) M3) fun z M3 => DW z p M3
def tMakeKw (C : Addr) (n m : Nat) (sp : Sp) (idx : List Nat) (E : L2.St → XK) (t tk : TA) : TE := fun σ H Q => t σ H fun vs H1 => tk σ H1 fun zs H2 => vs.length + 1 = n ∧ zs.length = m ∧ ∀ x dx, H2 x = none → H2 dx = none → dx ≠ x →
  sp (pickL idx (.ref x :: vs ++ zs)) (upd (upd H2 dx (.own x)) x (.ins C dx [])) (fun v H3 => v = .non ∧ Q (.ref x) H3) (E σ)
section
variable {X : Cx} {W : WX} {k n : Nat} {C f : Addr} {fd : FuncData} {ps ks : List Str} {P : DSp} {dds : List D} {dvs : List V} {ds : List Value} {x : Str} {p pos : Pos} {e : Expr} {es : List Expr} {kws : List Keyword} {t tk : TA} {q qk : DTA} {idx : List Nat}
theorem isNon_v {K : PySem.W.Frag} {G : Hp} {d : D} {v : V} (r : Rep K G d v) (h : d = .non) : v = .non := by subst h; exact r
/-- the new instance stands: from its promise by data -/
theorem made_sim {K : PySem.W.Frag} {G H : Hp} {p : Rho} {M : Mst} {s : L2.St} (S : Sim K G H p M s) {a dx : Addr} (ha : H a = none) (hdx : H dx = none) (hn : dx ≠ a) : M a = none ∧ Sim K G (upd (upd H dx (.own a)) a (.ins C dx [])) p (put M a (.ins C [])) s := by
  refine ⟨S.mem.fresh ha, ?_⟩
  have S1 : Sim K G (upd H dx (.own a)) p M s := sim_laid S hdx
  exact S1.put (S1.same.free (by rw [upd_ne hn.symm]; exact ha)) ⟨dx, [], upd_same, rfl, rfl⟩
theorem run_fnE {sp : Sp} {E : L2.St → XK} {CX : CXT} {pins : List (Addr × Obj)} {σ : L2.St} {H : Hp} {s : Shared} {Q : VK} {us ws args : List Value} {vs : List V} (hargs : Vals vs args) (M : Mk X.K C f) (F : FnOk X.prog X.w X.K X.mg X.base CX k f fd ps sp) (hr : Room (k + 1) X.A)
    (hb : ∀ s : Shared, X.K.In s.heap → BindsTo s fd ⟨Value.ref (σ0 + 1) :: us, ks.zip ws⟩ (ps.zip args)) (hx : PassesAt CX X σ (E σ)) (I : Inv X pins σ H s) (e0 : s.heap.objs.size = σ0)
    (h : ∀ dx, H (σ0 + 1) = none → H dx = none → dx ≠ σ0 + 1 → sp vs (upd (upd H dx (.own (σ0 + 1))) (σ0 + 1) (.ins C dx [])) (fun v H2 => v = .non ∧ Q (.ref (σ0 + 1)) H2) (E σ)) :
    wpAny (model X.prog X.w) X.A (call (.ref C) us (ks.zip ws)) (EP X pins σ Q) X.xe s := by
  subst e0
  have hq := h s.heap.objs.size (I.hok.fresh (Nat.le_succ _)) (I.hok.fresh (Nat.le_refl _)) (Nat.ne_of_lt (Nat.lt_succ_self _))
  have I2 := Inv.made (C := C) I
  refine wpAny_call (make_map (f := f) I.kIn M.makes M.init (beq_iff_eq.mp M.fn) (codeAny_mono (F.run _ X.stack _ _ ⟨Value.ref (s.heap.objs.size + 1) :: us, ks.zip ws⟩ args vs _ (E σ) (hr.make C us (ks.zip ws))
    (I2.env0.make C us (ks.zip ws)) (hb _ I2.kIn) hargs hq) fun r s' hq' => ?_))
  cases r with
  | error e => exact hx pins _ _ e s' I2 hq'
  | ok fl =>
    cases fl with
    | ret u =>
      obtain ⟨v, H', I3, rv, ev, q3⟩ := I2.after hq'
      subst ev
      exact ⟨rv, ⟨V.ref (s.heap.objs.size + 1), H', I3, rfl, q3⟩⟩
    | next => exact False.elim hq'
    | brk => exact False.elim hq'
    | cont => exact False.elim hq'
theorem run_mk {sp : Sp} {E : L2.St → XK} {CX : CXT} {pins : List (Addr × Obj)} {σ : L2.St} {H : Hp} {s : Shared} {Q : VK} {us : List Value} {vs : List V} (M : Mk X.K C f) (F : FnOk X.prog X.w X.K X.mg X.base CX k f fd ps sp) (hr : Room (k + 1) X.A) (hb : Binds X.K fd ps ds) (hd : Vals dvs ds)
    (hx : PassesAt CX X σ (E σ)) (I : Inv X pins σ H s) (r : Vals vs us)
    (h : ∀ x dx, H x = none → H dx = none → dx ≠ x → sp (.ref x :: (vs ++ dvs)) (upd (upd H dx (.own x)) x (.ins C dx [])) (fun v H2 => v = .non ∧ Q (.ref x) H2) (E σ)) :
    wpAny (model X.prog X.w) X.A (call (.ref C) us) (EP X pins σ Q) X.xe s := by
  have r2 : Vals (V.ref (s.heap.objs.size + 1) :: (vs ++ dvs)) (Value.ref (s.heap.objs.size + 1) :: (us ++ ds)) := .cons rfl (r.append hd)
  refine run_fnE (ks := []) (ws := []) r2 M F hr (fun s' hi => ?_) hx I rfl fun dx h1 h2 h3 => h _ dx h1 h2 h3
  have hq := h (s.heap.objs.size + 1) s.heap.objs.size (I.hok.fresh (Nat.le_succ _)) (I.hok.fresh (Nat.le_refl _)) (Nat.ne_of_lt (Nat.lt_succ_self _))
  have hl : (Value.ref (s.heap.objs.size + 1) :: us ++ ds).length = ps.length := by
    have e := r2.length
    rw [F.len _ _ _ _ hq] at e
    exact e.symm
  exact hb s' (Value.ref (s.heap.objs.size + 1) :: us) hi hl
theorem ref_make {K : PySem.W.Frag} (ha : RefA K W t q) (hd : ∀ G, RepL K G dds dvs) : RefE K W (tMakeSD C (toSp K P) dvs (fun s => WE W s) t) (qMake C P dds q) :=
  fun DW G H p M s Q Q' hw S h k => ha DW G H p M s _ _ hw S h fun G1 H1 M1 as vs e1 S1 r1 h1 a dx ha' hdx hn => by
    obtain ⟨mn, S2⟩ := made_sim (C := C) S1 ha' hdx hn
    exact toSp_at (hw.mono e1) S2 (RepL.cons (d := .ref a) rfl (RepL.append r1 (hd _))) (h1 a mn) fun G' H' M' d v e3 S3 r3 ⟨hd', q3⟩ => ⟨isNon_v r3 hd', k G' H' M' (.ref a) (.ref a) (e1.trans e3) S3 rfl q3⟩
/-- C(e, ..) -/
theorem q_make (Mk_ : Mk X.K C f) (F : FnOk X.prog X.w X.K X.mg X.base (L2.CX X.prog X.w) k f fd ps (toSp X.K P)) (hr : Room (k + 1) X.A) (tk : Takes X W) (hg : Gl X x) (hm : X.mg x = some (.ref C)) (hb : Binds X.K fd ps ds) (hd : Vals dvs ds) (hdd : ∀ G, RepL X.K G dds dvs)
    (ha : QA X W (e :: es) t q) (hdb : (x == ("__debug__" : Str)) = false := by decide) (he : starEach (e :: es) X.env = (false, eval e X.env) :: starEach es X.env := by rfl) (hpl : (backTo pos (starEach es X.env)).any (·.1) = false := by rfl) :
    QE X W (.Call (.Name x p) (e :: es) [] pos) (tMakeSD C (toSp X.K P) dvs (fun s => WE W s) t) (qMake C P dds q) := by
  refine ⟨⟨fun pins s σ H Q I h => ?_⟩, ref_make ha.rf hdd⟩
  refine wpAny_Call_Name_kw (ld_glob I hg hm ?_ hdb)
  refine PySem.W.callWith_K (h₀ := X.base) I.ok.mod.kin Mk_.kp (thn (ha.pe.run pos pins s σ H _ I h) fun us s1 ⟨vs, H1, I1, r, q⟩ => ⟨I1.kIn, ?_⟩) he hpl
  exact run_mk (E := fun s => WE W s) Mk_ F hr hb hd (passAt tk σ) I1 r q
theorem ref_makeKw {K : PySem.W.Frag} {j l : Nat} (ha : RefA K W t q) (hk : RefA K W tk qk) : RefE K W (tMakeKw C j l (toSp K P) idx (fun s => WE W s) t tk) (qMakeKw C j l P idx q qk) :=
  fun DW G H p M s Q Q' hw S h k => ha DW G H p M s _ _ hw S h fun G1 H1 M1 as vs e1 S1 r1 h1 => hk DW G1 H1 p M1 s _ _ (hw.mono e1) S1 h1 fun G2 H2 M2 bs zs e2 S2 r2 ⟨l1, l2, h2⟩ => by
    refine ⟨by rw [r1.length]; exact l1, by rw [r2.length]; exact l2, fun a dx ha' hdx hn => ?_⟩
    obtain ⟨mn, S3⟩ := made_sim (C := C) S2 ha' hdx hn
    have rr : RepL K G2 (.ref a :: as ++ bs) (.ref a :: vs ++ zs) := RepL.append (RepL.cons (d := .ref a) rfl (RepL.mono e2 _ _ r1)) r2
    exact toSp_at (hw.mono (e1.trans e2)) S3 (pick_rep rr idx) (h2 a mn) fun G' H' M' d v e3 S3 r3 ⟨hd', q3⟩ => ⟨isNon_v r3 hd', k G' H' M' (.ref a) (.ref a) ((e1.trans e2).trans e3) S3 rfl q3⟩
/-- C(e, .., k = v, ..) -/
theorem q_makeK (Mk_ : Mk X.K C f) (F : FnOk X.prog X.w X.K X.mg X.base (L2.CX X.prog X.w) k f fd ps (toSp X.K P)) (hr : Room (k + 1) X.A) (tkk : Takes X W) (hg : Gl X x) (hm : X.mg x = some (.ref C)) (hb : KwB X.K fd ps n ks idx)
    (ha : QA X W (e :: es) t q) (hkw : QK X W kws tk qk) (hall : (backToKw pos (keywordEach kws X.env)).all (·.1.isSome) = true := by rfl) (hks : (backToKw pos (keywordEach kws X.env)).filterMap (·.1) = ks := by rfl)
    (hdb : (x == ("__debug__" : Str)) = false := by decide) (he : starEach (e :: es) X.env = (false, eval e X.env) :: starEach es X.env := by rfl)
    (hpl : ((backTo pos (starEach (e :: es) X.env)).any (·.1) || (backToKw pos (keywordEach kws X.env)).any (·.1.isNone)) = false := by rfl) :
    QE X W (.Call (.Name x p) (e :: es) kws pos) (tMakeKw C n ks.length (toSp X.K P) idx (fun s => WE W s) t tk) (qMakeKw C n ks.length P idx q qk) := by
  refine ⟨⟨fun pins s σ H Q I h => ?_⟩, ref_makeKw ha.rf hkw.rf⟩
  refine wpAny_Call_Name_kw (ld_glob I hg hm ?_ hdb)
  refine PySem.W.callWith_KW (h₀ := X.base) I.ok.mod.kin Mk_.kp hall (thn (ha.pe.run pos pins s σ H _ I h) fun us s1 ⟨vs, H1, I1, r, q⟩ => ?_) hpl he
  refine thn (hkw.pe.run pos pins s1 σ H1 _ I1 q) fun ws s2 ⟨zs, H2, I2, rz, l1, l2, q2⟩ => ⟨I2.kIn, ?_⟩
  rw [hks]
  have r2 : Vals (V.ref (s2.heap.objs.size + 1) :: vs ++ zs) (Value.ref (s2.heap.objs.size + 1) :: us ++ ws) := Vals.append (.cons rfl r) rz
  refine run_fnE (E := fun s => WE W s) (pick_vals r2 idx) Mk_ F hr (fun s' hi => ?_) (passAt tkk σ) I2 rfl fun dx h1 h2 h3 => q2 _ dx h1 h2 h3
  exact hb s' (Value.ref (s2.heap.objs.size + 1) :: us) ws hi (by rw [List.length_cons, ← r.length]; exact l1) (rz.length.symm.trans l2)
theorem q_makeK0 (Mk_ : Mk X.K C f) (F : FnOk X.prog X.w X.K X.mg X.base (L2.CX X.prog X.w) k f fd ps (toSp X.K P)) (hr : Room (k + 1) X.A) (tkk : Takes X W) (hg : Gl X x) (hm : X.mg x = some (.ref C)) (hb : KwB X.K fd ps 1 ks idx)
    (hkw : QK X W kws tk qk) (hall : (backToKw pos (keywordEach kws X.env)).all (·.1.isSome) = true := by rfl) (hks : (backToKw pos (keywordEach kws X.env)).filterMap (·.1) = ks := by rfl)
    (hdb : (x == ("__debug__" : Str)) = false := by decide) (hpl : ((backTo pos (starEach [] X.env)).any (·.1) || (backToKw pos (keywordEach kws X.env)).any (·.1.isNone)) = false := by rfl) :
    QE X W (.Call (.Name x p) [] kws pos) (tMakeKw C 1 ks.length (toSp X.K P) idx (fun s => WE W s) tNil tk) (qMakeKw C 1 ks.length P idx qNil qk) := by
  refine ⟨⟨fun pins s σ H Q I h => ?_⟩, ref_makeKw (qa_nil (X := X) (W := W)).rf hkw.rf⟩
  refine wpAny_Call_Name_kw (ld_glob I hg hm ?_ hdb)
  refine PySem.W.callWith_KW0 (h₀ := X.base) I.ok.mod.kin Mk_.kp hall (thn (hkw.pe.run pos pins s σ H _ I h) fun ws s2 ⟨zs, H2, I2, rz, l1, l2, q2⟩ => ⟨I2.kIn, ?_⟩) hpl
  rw [hks]
  have r2 : Vals (V.ref (s2.heap.objs.size + 1) :: [] ++ zs) (Value.ref (s2.heap.objs.size + 1) :: [] ++ ws) := Vals.append (.cons rfl .nil) rz
  refine run_fnE (E := fun s => WE W s) (pick_vals r2 idx) Mk_ F hr (fun s' hi => ?_) (passAt tkk σ) I2 rfl fun dx h1 h2 h3 => q2 _ dx h1 h2 h3
  exact hb s' [Value.ref (s2.heap.objs.size + 1)] ws hi rfl (rz.length.symm.trans l2)
end
def qFrzE (q : DTE) : DTE := fun DW p M Q => q DW p M fun d M1 => match d with
  | .ref a => match M1 a with
    | some (.lst ds) => Q (.lst ds) (del M1 a)
    | some (.dK kvs) => Q (.dct (kvs.map (·.1)) (kvs.map (·.2))) (del M1 a)
    | some (.ins C fs) => Q (.ins C (fs.map (·.1)) (fs.map (·.2))) (del M1 a)
    | _ => False
  | d => Q d M1
theorem q_frzE {X : Cx} {W : WX} {e : Expr} {t : TE} {q : DTE} (h : QE X W e t q) : QE X W e t (qFrzE q) :=
  ⟨h.pe, fun DW G H p M s Q Q' hw S hq k => h.rf DW G H p M s _ _ hw S hq fun G1 H1 M1 d v e1 S1 r1 h1 => by
    split at h1
    · next a =>
      cases r1
      split at h1
      · next ds em =>
        obtain ⟨G', e2, S', r⟩ := S1.freeze em
        exact k G' H1 _ _ _ (e1.trans e2) S' r h1
      · next ds em =>
        obtain ⟨G', e2, S', r⟩ := S1.freezeD em
        exact k G' H1 _ _ _ (e1.trans e2) S' r h1
      · next C fs em =>
        obtain ⟨G', e2, S', r⟩ := S1.freezeI em
        exact k G' H1 _ _ _ (e1.trans e2) S' r h1
      · exact h1.elim
    · exact k G1 H1 M1 _ v e1 S1 r1 h1⟩
structure IsC (K : PySem.W.Frag) (C : Addr) : Prop where
  c : C8.InsC K C
  nb : ∀ t ∈ (["NoneType", "bool", "int", "str", "tuple", "list", "dict"] : List String), PySem.W.kitOne K (.type t) (.ref C) = some false
def dIsO (C : Addr) : DCa := fun ds M Q => match ds with
  | [x, .ref c] => c = C ∧ match res M x with
    | .ins C' _ _ => C' = C ∧ Q (.bl true) M
    | y => hasTy y = true ∧ Q (.bl false) M
  | _ => False
theorem tyD_mem {y : D} (h : hasTy y = true) : tyD y ∈ (["NoneType", "bool", "int", "str", "tuple", "list", "dict"] : List String) := by
  cases y <;> first | (cases h; done) | simp [tyD]
theorem c_isO {X : Cx} {C : Addr} (T : IsC X.K C) : QCa X (.builtin "isinstance") (rIsi X.K) (dIsO C) :=
  ⟨call_isi, fun G H p M s ds vs Q Q' S r h k => by
    unfold dIsO at h
    split at h
    · next x c =>
      obtain ⟨rfl, h⟩ := h
      obtain ⟨v, u, rfl, r1, r2⟩ := repL2 r
      cases r2
      split at h
      · next C' ns es e =>
        obtain ⟨rfl, h⟩ := h
        obtain ⟨a, dx, fv, rfl, g1, g2, g3⟩ := as_ins S r1 e
        exact ⟨.ref a, .ref C', .ref C', .ref C', true, rfl, .own _, .base (.ins g1 T.c.cl T.c.ha T.c.hn T.c.htk T.c.hm), T.c.me, k G H M (.bl true) _ (Same.refl _) S rfl h⟩
      · next y hy =>
        obtain ⟨ht, h⟩ := h
        exact ⟨v, .ref c, _, .ref c, false, rfl, .own _, tyX_of S r1 ht, T.nb _ (tyD_mem ht), k G H M (.bl false) _ (Same.refl _) S rfl h⟩
    · exact h.elim⟩
/-- an own class of the module -/
structure ClsO (K : PySem.W.Frag) (mg : Str → Option Value) (x : Str) (fs : List Str) where
  C : Addr
  g : mg x = some (.ref C)
  cl : Cls K C
  no : ∀ f ∈ fs, NoAttr K C f
/-- a method of it -/
structure MthAt (K : PySem.W.Frag) (C : Addr) (x qual : Str) (st : Stmt) (ps : List Str) where
  f : Addr
  fd : FuncData
  m : Meth K C x f
  F : Fun K x qual st f fd
  b : Binds K fd ps []
structure MthAtD (K : PySem.W.Frag) (C : Addr) (x qual : Str) (st : Stmt) (ps : List Str) (dvs : List V) where
  f : Addr
  fd : FuncData
  m : Meth K C x f
  F : FunD K x qual (defArgs st) (defBody st) (defScope st) dvs [] f fd
end DL
namespace DL
open PySem L2
end DL
namespace PySem
end PySem
namespace DL
open PySem L2
def enumDI : Int → List D → List D
  | _, [] => []
  | n, d :: ds => .tup [.int n, d] :: enumDI (n + 1) ds
@[simp] theorem enumDI_length : ∀ (n : Int) (ds : List D), (enumDI n ds).length = ds.length
  | _, [] => rfl
  | n, d :: ds => by simp [enumDI, enumDI_length (n + 1) ds]
end DL
namespace DL
open PySem L2 Tx20 Tx21
end DL
namespace DL
open PySem PySem.Spec PyProof.Rows L2
/-- what a def promises where p's object, a caught exception, stands by -/
structure FnW (P : Program) (w : World) (K : PySem.W.Frag) (mg : Str → Option Value) (base : Heap) (CX : CXT) (k : Nat) (f : Addr) (fd : FuncData) (ps : List Str) (sp : Sp) (p : Addr × Obj) : Prop where
  len : ∀ vs H Q E, sp vs H Q E → vs.length = ps.length
  run : ∀ (A : Around) (outer : List Env) (s : Shared) (H : Hp) (args : Args) (us : List Value) (vs : List V) (Q : VK) (E : XK), L2H.RoomH k A → L2H.PinOk outer H s p → Env0 P w K mg base A outer s H → BindsTo s fd args (ps.zip us) → Vals vs us → sp vs H Q E →
    codeAny (model P w) A (.call (.ref f) args) (CR CX outer P w H s Q E) s
section
variable {P : Program} {w : World} {K : PySem.W.Frag} {mg : Str → Option Value} {base : Heap}
theorem FnW.mono {CX : CXT} {j k : Nat} {f : Addr} {fd : FuncData} {ps : List Str} {sp : Sp} {p : Addr × Obj} (F : FnW P w K mg base CX j f fd ps sp p) (h : j ≤ k) : FnW P w K mg base CX k f fd ps sp p :=
  ⟨F.len, fun A outer s H args us vs Q E hr => F.run A outer s H args us vs Q E (hr.mono h)⟩
theorem FnW.imp {CX : CXT} {k : Nat} {f : Addr} {fd : FuncData} {ps : List Str} {sp sp' : Sp} {p : Addr × Obj} (F : FnW P w K mg base CX k f fd ps sp p) (h : ∀ vs H Q E, sp' vs H Q E → sp vs H Q E) : FnW P w K mg base CX k f fd ps sp' p :=
  ⟨fun vs H Q E q => F.len vs H Q E (h _ _ _ _ q), fun A outer s H args us vs Q E hr hp he hb hv hs => F.run A outer s H args us vs Q E hr hp he hb hv (h _ _ _ _ hs)⟩
end
end DL
set_option maxHeartbeats 2000000
namespace DL
open PySem PySem.Spec PyProof.Rows L2
section
variable {prog : Program} {w : World} {A : Around} {E : Value → Shared → Prop} {s : Shared} {K : PySem.W.Frag} {x C f : Addr} {ox : Obj} {od : Option Obj} {b : Value}
theorem ifBound_objNe {M : Model} {args : List Value} {Q : Option Value → Shared → Prop} (X : K.In s.heap) (I : PySem.W.InstAt s.heap x ox C od) (hs : PySem.W.findIn K (.ref C) "__ne__" = some (some (.builtin "object.__ne__")))
    (h : wpAny M A (call (.builtin "object.__ne__") (.ref x :: args)) (fun v => Q (some v)) E s) : wpAny M A (callSpecialIfBound? (.ref x) "__ne__" args) Q E s := by
  simp only [callSpecialIfBound?, bindSpecialIfBound?]
  refine wpAny_holding (wpAny_bind (wpAny_bind (wpAny_bind (I.type.here ((PySem.W.looks_findIn X hs).here ?_)))))
  refine wpAny_bind (wpAny_askSetting (wpAny_ite ?_))
  have fin : wpAny M A (call (.builtin "object.__ne__") ([.ref x] ++ args) >>= fun v => pure (some v)) Q E s := wpAny_bind (wpAny_mono h (fun v s' h' => wpAny_pure h') fun _ _ h' => h')
  split
  · exact wpAny_bind (wpAny_of_eq (F.cmp_object.ne.bind _) (wpAny_pure (by exact fin)))
  · exact wpAny_tryCatch (wpAny_bind (wpAny_of_eq (F.cmp_object.ne.bind _) (wpAny_pure (by exact fin))))
theorem entry_ne {Q : Fin → Shared → Prop} (X : K.In s.heap) (I : PySem.W.InstAt s.heap x ox C od) (hs : PySem.W.findIn K (.ref C) "__eq__" = some (some (.ref f))) (hf : PySem.W.isFn K (.ref f) = true) (hu : A.units < cLine)
    (h : wpAny (model prog w) A (call (.ref f) [.ref x, b]) (fun v s' => ∃ r, v = .bool r ∧ Q (.done (.ret (.bool (!r)))) s') E s) : wpAny (model prog w) A (Builtin.«object.__ne__» ⟨[.ref x, b], []⟩) Q E s := by
  unfold Builtin.«object.__ne__»
  repeat (first
    | with_reducible refine wpAny_cRoomFor hu ?_
    | with_reducible refine PySem.W.ifBound_K X I hs hf (wpAny_mono h (fun v s' hv => ?_) fun _ _ e => e)
    | wp_step)
  obtain ⟨r, rfl, q⟩ := hv
  exact wpAny_bind (wpAny_truthy_bool (wpAny_pure q))
theorem call_ne {Q : Value → Shared → Prop} (X : K.In s.heap) (I : PySem.W.InstAt s.heap x ox C od) (hm : PySem.W.mroIn K C (.type "object") = some true) (hs : PySem.W.findIn K (.ref C) "__eq__" = some (some (.ref f))) (hf : PySem.W.isFn K (.ref f) = true) (hu : A.in1.units < cLine)
    (h : wpAny (model prog w) A.in1 (call (.ref f) [.ref x, b]) (fun v s' => ∃ r, v = .bool r ∧ Q (.bool (!r)) s') E s) : wpAny (model prog w) A (call (.builtin "object.__ne__") [.ref x, b]) Q E s :=
  wpAny_call (codeAny_call_builtin F.cmp_object.ne.plain F.cmpEntry_ne (PySem.W.check_slot F.cmpKind_ne F.cmpSplit_ne (I.type.andThen (PySem.W.looks_mroIn X hm)) (F.cmpArgs_ne _ _) (entry_ne X I hs hf hu h)))
theorem ne_K {h₀ : Heap} {L : Addr} {m : Str → Option Value} {tb : Value} {Q : Value → Shared → Prop} (hu : A.units + 1 < cLine) (F : Fr h₀ L s.heap m) (X₀ : K.In h₀) (I : PySem.W.InstAt s.heap x ox C od) (hb : PySem.W.Looks (model prog w) s.heap (typeOf b) tb) (hn : PySem.W.notFirst K C tb = true)
    (hm : PySem.W.mroIn K C (.type "object") = some true) (hne : PySem.W.findIn K (.ref C) "__ne__" = some (some (.builtin "object.__ne__"))) (hs : PySem.W.findIn K (.ref C) "__eq__" = some (some (.ref f))) (hf : PySem.W.isFn K (.ref f) = true)
    (h : wpAny (model prog w) A.in1 (call (.ref f) [.ref x, b]) (fun v s' => ∃ r, v = .bool r ∧ Q (.bool (!r)) s') E s) : wpAny (model prog w) A (richCompare .NotEq (.ref x) b) Q E s := by
  have X := X₀.keeps F.keep
  have hu0 : A.units < cLine := Nat.lt_of_succ_lt hu
  have one : wpAny (model prog w) A (tryCompare (.ref x) "__ne__" b) (fun r s' => ∃ v, r = some v ∧ Q v s') E s := by
    unfold tryCompare
    refine wpAny_bind (ifBound_objNe X I hne (call_ne X I hm hs hf hu (wpAny_mono h (fun v s' hv => ?_) fun _ _ e => e)))
    obtain ⟨r, rfl, q⟩ := hv
    exact ⟨r, rfl, wpAny_pure ⟨_, rfl, q⟩⟩
  unfold richCompare
  simp only [oneThing_ref]
  refine wpAny_holding (wpAny_bind (wpAny_cRoomFor hu0 ?_))
  refine wpAny_bind (I.type.here (wpAny_bind (hb.here ?_)))
  split
  · rename_i q
    have e : PySem.W.subIn K tb (.ref C) = some false := by
      rcases Bool.or_eq_true_iff.mp hn with e | e
      · rw [beq_iff_eq.mp e] at q; simp at q
      · exact beq_iff_eq.mp e
    refine wpAny_bind ((PySem.W.looks_subIn X e).here ?_)
    simp only [Bool.false_eq_true, if_false]
    refine wpAny_bind (wpAny_mono one (fun r s' z => ?_) fun _ _ e => e)
    obtain ⟨v, rfl, hq⟩ := z
    exact wpAny_pure hq
  · refine wpAny_bind (wpAny_pure ?_)
    simp only [Bool.false_eq_true, if_false]
    refine wpAny_bind (wpAny_mono one (fun r s' z => ?_) fun _ _ e => e)
    obtain ⟨v, rfl, hq⟩ := z
    exact wpAny_pure hq
end
def rOwn (neg : Bool) (C : Addr) (sp : Sp) : R2 := fun x y H Q => ∃ a b dx dy fs gs, x = .ref a ∧ y = .ref b ∧ H a = some (.ins C dx fs) ∧ H b = some (.ins C dy gs) ∧ sp [.ref a, .ref b] H (fun v H' => ∃ r, v = .bl r ∧ Q (.bl (xor neg r)) H') fun _ _ _ => False
section
variable {X : Cx} {C f : Addr} {fd : FuncData} {ps : List Str} {k : Nat} {sp : Sp}
/-- the own __eq__ runs -/
theorem run_eq {A : Around} {pins : List (Addr × Obj)} {σ : L2.St} {H : Hp} {s : Shared} {a b : Addr} {Q : VK} (F : FnOk X.prog X.w X.K X.mg X.base (L2.CX X.prog X.w) k f fd ps sp) (hb : L2.Binds X.K fd ps []) (hr : Room k A) (fr : A.frames = X.A.frames) (I : Inv X pins σ H s)
    (h : sp [.ref a, .ref b] H (fun v H' => ∃ r, v = .bl r ∧ Q (.bl r) H') fun _ _ _ => False) :
    wpAny (model X.prog X.w) A (call (.ref f) [.ref a, .ref b]) (fun v s' => ∃ r H', v = .bool r ∧ Inv X pins σ H' s' ∧ Q (.bl r) H') X.xe s := by
  have hl := F.len _ _ _ _ h
  have e0 : Env0 X.prog X.w X.K X.mg X.base A X.stack s H := by
    have e := I.env0
    exact ⟨by rw [fr]; exact e.frames, e.mod, e.bs, e.bsz, e.funs, e.frf, e.hok, e.bare⟩
  have r2 : Vals [V.ref a, V.ref b] [Value.ref a, Value.ref b] := .cons rfl (.cons rfl .nil)
  refine wpAny_call (codeAny_mono (F.run A X.stack s H ⟨[.ref a, .ref b], []⟩ [.ref a, .ref b] [.ref a, .ref b] _ _ hr e0 (by
    have := hb s [.ref a, .ref b] I.kIn (by simpa using hl)
    simpa using this) r2 h) fun r s' hq => ?_)
  cases r with
  | error e => exact passL pins σ H s e s' I hq
  | ok fl =>
    cases fl with
    | ret w =>
      obtain ⟨z, H', I', rz, r, ez, ex⟩ := I.after hq
      subst ez
      cases rz
      exact ⟨r, H', rfl, I', ex⟩
    | next => exact False.elim hq
    | brk => exact False.elim hq
    | cont => exact False.elim hq
theorem op_own_eq (F : FnOk X.prog X.w X.K X.mg X.base (L2.CX X.prog X.w) k f fd ps sp) (hm : Meth X.K C "__eq__" f) (hb : L2.Binds X.K fd ps []) (hr : Room k X.A) : OpR X (compareOp .Eq) (rOwn false C sp) := by
  intro pins s σ H x y v u Q I rx ry h
  obtain ⟨a, b, dx, dy, fs, gs, rfl, rfl, ha, hb', hq⟩ := h
  cases rx
  cases ry
  obtain ⟨mA, J, _⟩ := ins_get I.hok ha
  obtain ⟨mB, J', _⟩ := ins_get I.hok hb'
  obtain ⟨od, J, _⟩ := J.look
  obtain ⟨od', J', _⟩ := J'.look
  obtain ⟨m, hF⟩ := I.fr
  show wpAny (model X.prog X.w) X.A (richCompare .Eq (.ref a) (.ref b)) (EP X pins σ Q) X.xe s
  refine PySem.W.cmp_K (op := .Eq) (tb := .ref C) hr.units0 hF I.ok.mod.kin J J'.type (by simp [PySem.W.notFirst]) hm.at_ hm.fn ?_
  refine wpAny_mono (run_eq F hb hr rfl I (Q := fun v H' => ∃ r, v = .bl r ∧ Q (.bl (xor false r)) H') (by
    have e : (fun (v : V) (H' : Hp) => ∃ r, v = .bl r ∧ ∃ r', V.bl r = .bl r' ∧ Q (.bl (xor false r')) H') = fun v H' => ∃ r, v = .bl r ∧ Q (.bl (xor false r)) H' := by
      funext v H'
      apply propext
      constructor
      · rintro ⟨r, rfl, r', e, q⟩; cases e; exact ⟨r, rfl, q⟩
      · rintro ⟨r, rfl, q⟩; exact ⟨r, rfl, r, rfl, q⟩
    rw [e]; exact hq)) (fun v s' z => ?_) fun _ _ e => e
  obtain ⟨r, H', rfl, I', r', e, q⟩ := z
  cases e
  rw [Bool.false_xor] at q
  exact ⟨.bl r, H', I', rfl, q⟩
theorem op_own_ne (F : FnOk X.prog X.w X.K X.mg X.base (L2.CX X.prog X.w) k f fd ps sp) (hm : Meth X.K C "__eq__" f) (hne : PySem.W.findIn X.K (.ref C) "__ne__" = some (some (.builtin "object.__ne__"))) (ho : PySem.W.mroIn X.K C (.type "object") = some true)
    (hb : L2.Binds X.K fd ps []) (hr : Room (k + 1) X.A) : OpR X (compareOp .NotEq) (rOwn true C sp) := by
  intro pins s σ H x y v u Q I rx ry h
  obtain ⟨a, b, dx, dy, fs, gs, rfl, rfl, ha, hb', hq⟩ := h
  cases rx
  cases ry
  obtain ⟨mA, J, _⟩ := ins_get I.hok ha
  obtain ⟨mB, J', _⟩ := ins_get I.hok hb'
  obtain ⟨od, J, _⟩ := J.look
  obtain ⟨od', J', _⟩ := J'.look
  obtain ⟨m, hF⟩ := I.fr
  have hu : X.A.units + 1 < cLine := by have := hr.un; omega
  show wpAny (model X.prog X.w) X.A (richCompare .NotEq (.ref a) (.ref b)) (EP X pins σ Q) X.xe s
  refine ne_K (tb := .ref C) hu hF I.ok.mod.kin J J'.type (by simp [PySem.W.notFirst]) ho hne hm.at_ hm.fn ?_
  have hr1 : Room k X.A.in1 := hr.in1
  refine wpAny_mono (run_eq (A := X.A.in1) F hb hr1 rfl I (Q := fun v H' => ∃ r, v = .bl r ∧ Q (.bl (xor true r)) H') (by
    have e : (fun (v : V) (H' : Hp) => ∃ r, v = .bl r ∧ ∃ r', V.bl r = .bl r' ∧ Q (.bl (xor true r')) H') = fun v H' => ∃ r, v = .bl r ∧ Q (.bl (xor true r)) H' := by
      funext v H'
      apply propext
      constructor
      · rintro ⟨r, rfl, r', e, q⟩; cases e; exact ⟨r, rfl, q⟩
      · rintro ⟨r, rfl, q⟩; exact ⟨r, rfl, r, rfl, q⟩
    rw [e]; exact hq)) (fun v s' z => ?_) fun _ _ e => e
  obtain ⟨r, H', rfl, I', r', e, q⟩ := z
  cases e
  rw [Bool.true_xor] at q
  exact ⟨r, rfl, .bl (!r), H', I', rfl, q⟩
/-- .. by data -/
def dOwn (neg : Bool) (C : Addr) (P : DSp) : DOp := fun x y M Q => (∃ ns ds ns' ds', x = .ins C ns ds ∧ y = .ins C ns' ds') ∧ P [x, y] M (fun d M' => ∃ r, d = .bl r ∧ Q (.bl (xor neg r)) M') fun _ _ => False
theorem ref_own {K : PySem.W.Frag} {neg : Bool} {P : DSp} : RefR2 K (rOwn neg C (toSp K P)) (dOwn neg C P) := fun G H p M s x y v u Q Q' S r1 r2 ⟨⟨ns, ds, ns', ds', e1, e2⟩, h⟩ k => by
  subst e1 e2
  have rl : RepL K G [.ins C ns ds, .ins C ns' ds'] [v, u] := RepL.cons r1 (RepL.cons r2 rfl)
  obtain ⟨a, dx, fs, rfl, g1, _, _⟩ := r1
  obtain ⟨b, dy, gs, rfl, g2, _, _⟩ := r2
  refine ⟨a, b, dx, dy, fs, gs, rfl, rfl, S.same _ _ g1, S.same _ _ g2, ?_⟩
  refine ⟨G, _, M, _, _, S.same, rl, S.mem, h, fun G' H' v d M' e1 e2 r hm ⟨t, ed, q⟩ => ?_, fun _ _ _ _ _ _ _ _ _ _ z => z⟩
  subst ed
  cases r
  refine ⟨t, rfl, ?_⟩
  have S' : Sim K G' H' p M' s := ⟨e2, fun i d hd => by
    obtain ⟨v, h1, h2⟩ := S.env i d hd
    exact ⟨v, h1, Rep.mono e1 _ _ h2⟩, S.len, hm⟩
  exact k G' H' M' (.bl (xor neg t)) _ e1 S' rfl q
theorem o_ownEq {P : DSp} (F : FnOk X.prog X.w X.K X.mg X.base (L2.CX X.prog X.w) k f fd ps (toSp X.K P)) (hm : Meth X.K C "__eq__" f) (hb : L2.Binds X.K fd ps []) (hr : Room k X.A) : QOp X (compareOp .Eq) (rOwn false C (toSp X.K P)) (dOwn false C P) := ⟨op_own_eq F hm hb hr, ref_own⟩
theorem o_ownNe {P : DSp} (F : FnOk X.prog X.w X.K X.mg X.base (L2.CX X.prog X.w) k f fd ps (toSp X.K P)) (hm : Meth X.K C "__eq__" f) (hne : PySem.W.findIn X.K (.ref C) "__ne__" = some (some (.builtin "object.__ne__"))) (ho : PySem.W.mroIn X.K C (.type "object") = some true)
    (hb : L2.Binds X.K fd ps []) (hr : Room (k + 1) X.A) : QOp X (compareOp .NotEq) (rOwn true C (toSp X.K P)) (dOwn true C P) := ⟨op_own_ne F hm hne ho hb hr, ref_own⟩
end
end DL
namespace DL
open PySem L2
end DL
set_option maxHeartbeats 1000000
namespace DL
open PySem PySem.Spec PyProof.Rows L2
/-- a promise of a call without arguments -/
abbrev DPf := Mst → DK → (DX → Mst → Prop) → Prop
section
variable {X : Cx} {pins : List (Addr × Obj)} {σ : L2.St} {H : Hp} {s : Shared}
abbrev cxG (X : Cx) (s : Shared) (H : Hp) (N : List Str) (q : Str) (sg : Scope) (g : Addr) (cd : Value) : Cx := cxOf C8.CX0 X.prog X.w X.K X.mg X.base N q sg g cd X.A X.stack s H C8.E0
end
/-- what the lambda's run makes of its promise -/
def LamOk (K : PySem.W.Frag) (vs : List V) (ds : List D) (tl : XK → Hp → VK → Prop) (pf : DPf) : Prop := ∀ (G1 H1 : Hp) (M1 : Mst) (Qd : DK) (Ed : DX → Mst → Prop) (Qv : VK) (Ev : XK), RepL K G1 ds vs → Same G1 H1 → MemOk K G1 H1 M1 → pf M1 Qd Ed →
  (∀ G' H' v d M', Same G1 G' → Same G' H' → Rep K G' d v → MemOk K G' H' M' → Qd d M' → Qv v H') →
  (∀ G' H' x cls dx M', Same G1 G' → Same G' H' → RepX K G' x cls dx → MemOk K G' H' M' → Ed x M' → Ev cls dx H') → tl Ev H1 Qv
def tAct (c' f : Addr) (q : Str) (tl : XK → Hp → VK → Prop) (W : WX) : TE := fun σZ HZ Q => σZ[0]? = some (some (.ref f)) ∧ HZ c' = some (LamX.CodeO c' q) ∧ tl (WE W σZ) HZ Q
/-- a def that is handed a lambda of the promise pf and keeps R pf -/
def GivesL (X : Cx) (N : List Str) (x : Str) (sg : Scope) (g : Addr) (cd : Value) (bg : List Stmt) (a q : Str) (R : DPf → Mst → DK → Prop) : Prop :=
  ∀ (f c' : Addr) (s : Shared) (G H : Hp) (M : Mst) (vs : List V) (ds : List D) (tl : XK → Hp → VK → Prop) (pf : DPf) (Q : DK) (Q' : VK),
    (∀ (W : WX) (pn : List (Addr × Obj)) (xe : Value → Shared → Prop) (p1 p2 : Pos), Takes ((cxG X s H N x sg g cd).tr pn xe) W → PE ((cxG X s H N x sg g cd).tr pn xe) (.Call (.Name a p1) [] [] p2) (tAct c' f q tl W)) →
    G c' = some (LamX.CodeO c' q) → Same G H → MemOk X.K G H M → RepL X.K G ds vs → LamOk X.K vs ds tl pf → R pf M Q →
    (∀ G' H' v d M', Same G G' → Same G' H' → Rep X.K G' d v → MemOk X.K G' H' M' → Q d M' → Q' v H') →
    ∃ t, PSs (cxG X s H N x sg g cd).nox bg t ∧ t { nx := fun _ H' => Q' .non H', rt := Q' } (L2.start N [.ref f]) H
end DL
namespace DL
open PySem PySem.Spec PyProof.Rows L2
end DL
set_option maxHeartbeats 1000000
namespace DL
open PySem PySem.Spec PyProof.Rows L2
end DL
namespace DL
open PySem L2
def LamDef (P : Program) (w : World) (K : PySem.W.Frag) (mg : Str → Option Value) (base : Heap) (k : Nat) (x : Str) (N : List Str) (sg : Scope) (g : Addr) (bg : List Stmt) (a : Str) (R : DPf → Mst → DK → Prop) : Prop :=
  ∀ (X : Cx), X.prog = P → X.w = w → X.K = K → X.mg = mg → X.base = base → Room k X.A → ∀ (cd : Value) (q : Str), GivesL X N x sg g cd bg a q R
theorem LamDef.mono {P : Program} {w : World} {K : PySem.W.Frag} {mg : Str → Option Value} {base : Heap} {j k : Nat} {x : Str} {N : List Str} {sg : Scope} {g : Addr} {bg : List Stmt} {a : Str} {R : DPf → Mst → DK → Prop} (h : LamDef P w K mg base j x N sg g bg a R) (hj : j ≤ k) : LamDef P w K mg base k x N sg g bg a R :=
  fun X e1 e2 e3 e4 e5 hr => h X e1 e2 e3 e4 e5 (hr.mono hj)
section
variable {X : Cx} {W : WX} {k : Nat} {f C : Addr} {fd : FuncData} {ps : List Str} {P : DSp} {dds : List D} {dvs : List V} {x m : Str} {fs : List Str} {p pos apos : Pos} {e o : Expr} {es : List Expr} {to : TE} {qo : DTE} {t : TA} {q : DTA}
theorem q_makeD (Mk_ : Mk X.K C f) (F : FnOk X.prog X.w X.K X.mg X.base (L2.CX X.prog X.w) k f fd ps (toSp X.K P)) (hr : Room (k + 1) X.A) (tk : Takes X W) (hg : Gl X x) (hm : X.mg x = some (.ref C)) (hb : BindsD X.K fd ps dvs) (hdd : ∀ G, RepL X.K G dds dvs)
    (ha : QA X W (e :: es) t q) (hdb : (x == ("__debug__" : Str)) = false := by decide) (he : starEach (e :: es) X.env = (false, eval e X.env) :: starEach es X.env := by rfl) (hpl : (backTo pos (starEach es X.env)).any (·.1) = false := by rfl) :
    QE X W (.Call (.Name x p) (e :: es) [] pos) (tMakeSD C (toSp X.K P) dvs (fun s => WE W s) t) (qMake C P dds q) := by
  obtain ⟨ds, hd, hb⟩ := hb
  exact q_make Mk_ F hr tk hg hm hb hd hdd ha hdb he hpl
end
end DL
namespace DL
open PySem L2
section
variable {X : Cx}
def rTupX (K : PySem.W.Frag) : List V → Hp → VK → Prop := fun xs H Q => ∃ p ys, xs = [.ref p] ∧ ((SqL K H p ys ∧ ∀ l o, o.dict = none → H l = none → Q (.ref l) (upd H l (.frz o (.tup ys)))) ∨ (SqT K H p ys ∧ Q (.ref p) H))
theorem call_tupleX : CallR X (.type "tuple") (rTupX X.K) := by
  intro pins s σ H xs us Q I r h
  obtain ⟨p, ys, rfl, h⟩ := h
  obtain ⟨u, rfl, rx⟩ := vals1 r
  cases rx
  rcases h with ⟨hq, q⟩ | ⟨hq, q⟩
  · obtain ⟨its, r', pl, hz⟩ := I.list hq
    have hlen := r'.length
    refine call_tuple_list pl.isList (fun h' kp => ?_) (by simp only [List.size_toArray] <;> omega)
    have I1 : Inv X pins σ H { s with heap := h' } := I.kept (t' := s.toks) kp
    have I2 : Inv X pins σ (upd H h'.objs.size (.frz { cls := .type "tuple", data := .seq its.toArray } (.tup ys))) { s with heap := h'.push { cls := .type "tuple", data := .seq its.toArray } } :=
      I1.laid (t' := s.toks) (fun b o e => Heap.get?_push_of_some _ e) (Nat.le_refl _) (show ObjOk X.prog X.w _ _ _ (.frz _ (.tup ys)) from ⟨Heap.get?_push_size _ rfl, hz, its, r', _, Heap.get?_push_size _ rfl, rfl, _, rfl⟩)
    exact ⟨.ref h'.objs.size, _, I2, rfl, q _ _ rfl (I1.hok.fresh (Nat.le_refl _))⟩
  · obtain ⟨its, r', pl, hz⟩ := I.tuple hq
    exact call_tuple_same pl ⟨.ref p, H, I, rfl, q⟩
end
def dTupX : DCa := fun ds M Q => match ds with
  | [.tup es] => Q (.tup es) M
  | [.xtp es] => Q (.xtp es) M
  | [x] => match res M x with
    | .lst es => Q (.xtp es) M
    | _ => False
  | _ => False
theorem c_tupleX {X : Cx} : QCa X (.type "tuple") (rTupX X.K) dTupX := ⟨call_tupleX, fun G H p M s ds vs Q Q' S r h k => by
  unfold dTupX at h
  split at h
  · next es =>
    obtain ⟨v, rfl, r1⟩ := repL1 r
    obtain ⟨a, us, rfl, g1, g2, g3⟩ := r1
    exact ⟨a, us, rfl, .inr ⟨.inl (.inl (S.same _ _ g1)), k G H M (.tup es) _ (Same.refl _) S ⟨a, us, rfl, g1, g2, g3⟩ h⟩⟩
  · next es =>
    obtain ⟨v, rfl, r1⟩ := repL1 r
    obtain ⟨a, o, us, rfl, g1, g0, g2, g3⟩ := r1
    exact ⟨a, us, rfl, .inr ⟨.inl (.inr ⟨o, S.same _ _ g1⟩), k G H M (.xtp es) _ (Same.refl _) S ⟨a, o, us, rfl, g1, g0, g2, g3⟩ h⟩⟩
  · next x _ _ =>
    obtain ⟨v, rfl, r1⟩ := repL1 r
    split at h
    · next es e1 =>
      obtain ⟨a, us, rfl, g1, g2, g3⟩ := as_lst S r1 e1
      refine ⟨a, us, rfl, .inl ⟨.inl (.inl g1), fun q o ho hq => ?_⟩⟩
      obtain ⟨e, S'⟩ := S.made (o := .frz o (.tup us)) hq
      exact k _ _ _ (.xtp es) _ e S' ⟨q, o, us, rfl, upd_same, ho, RepL.mono e _ _ g2, g3⟩ h
    · exact h.elim
  · exact h.elim⟩
end DL
namespace DL
open PySem L2 Tx20 Tx21
/-- plain data: texts and lengths of at most n -/
inductive Pl (n : Nat) : D → Prop
  | non : Pl n .non
  | bl (b : Bool) : Pl n (.bl b)
  | int (i : Int) : Pl n (.int i)
  | str {x : Str} (h : Tx_ n x) : Pl n (.str x)
  | tup {ds : List D} (hl : ds.length ≤ n) (h : ∀ d ∈ ds, Pl n d) : Pl n (.tup ds)
  | lst {ds : List D} (hl : ds.length ≤ n) (h : ∀ d ∈ ds, Pl n d) : Pl n (.lst ds)
theorem Pl.mono {n m : Nat} (hn : n ≤ m) {d : D} (h : Pl n d) : Pl m d := by
  induction h with
  | non => exact .non
  | bl b => exact .bl b
  | int i => exact .int i
  | str h => exact .str (h.mono hn)
  | tup hl _ ih => exact .tup (Nat.le_trans hl hn) ih
  | lst hl _ ih => exact .lst (Nat.le_trans hl hn) ih
theorem Pl.data {n : Nat} {d : D} (h : Pl n d) : isData d = true := by
  induction h with
  | non => rfl
  | bl b => rfl
  | int i => rfl
  | str h => rfl
  | tup _ _ ih => rw [isData, isDataL_all, List.all_eq_true]; exact ih
  | lst _ _ ih => rw [isData, isDataL_all, List.all_eq_true]; exact ih
theorem Pl.res {n : Nat} {d : D} {M : Mst} (h : Pl n d) : res M d = d := by cases h <;> rfl
theorem Pl.strI {n : Nat} {x : Str} (h : Pl n (.str x)) : Tx_ n x := by cases h with | str a => exact a
def strB : D → Bool
  | .str _ => true
  | _ => false
section
variable {n : Nat} {x : D} {M : Mst} {Q : DK}
theorem isi_str (h : Pl n x) : dIsi [x, .ty "str"] M Q = Q (.bl (strB x)) M := by cases h <;> simp [strB]
end
section
variable {d0 d1 d2 d3 d4 d5 d6 d7 d8 d9 d10 d11 d12 d13 d14 d15 d16 d17 d18 d19 d20 d21 d22 d23 d24 : D}
theorem z_l0 : (([] : List D).length ≤ 100000) = True := by simp
theorem z_l1 : (([d0] : List D).length ≤ 100000) = True := by simp
theorem z_l2 : (([d0, d1] : List D).length ≤ 100000) = True := by simp
theorem z_l3 : (([d0, d1, d2] : List D).length ≤ 100000) = True := by simp
theorem z_l4 : (([d0, d1, d2, d3] : List D).length ≤ 100000) = True := by simp
theorem z_l5 : (([d0, d1, d2, d3, d4] : List D).length ≤ 100000) = True := by simp
theorem z_l6 : (([d0, d1, d2, d3, d4, d5] : List D).length ≤ 100000) = True := by simp
theorem z_l7 : (([d0, d1, d2, d3, d4, d5, d6] : List D).length ≤ 100000) = True := by simp
theorem z_l8 : (([d0, d1, d2, d3, d4, d5, d6, d7] : List D).length ≤ 100000) = True := by simp
theorem z_l9 : (([d0, d1, d2, d3, d4, d5, d6, d7, d8] : List D).length ≤ 100000) = True := by simp
theorem z_l19 : (([d0, d1, d2, d3, d4, d5, d6, d7, d8, d9, d10, d11, d12, d13, d14, d15, d16, d17, d18] : List D).length ≤ 100000) = True := by simp
theorem z_l24 : (([d0, d1, d2, d3, d4, d5, d6, d7, d8, d9, d10, d11, d12, d13, d14, d15, d16, d17, d18, d19, d20, d21, d22, d23] : List D).length ≤ 100000) = True := by simp
theorem z_l25 : (([d0, d1, d2, d3, d4, d5, d6, d7, d8, d9, d10, d11, d12, d13, d14, d15, d16, d17, d18, d19, d20, d21, d22, d23, d24] : List D).length ≤ 100000) = True := by simp
end
theorem lcN {b : Nat} {te : DTE} {p : Rho} {M : Mst} {c : Addr} {ds : List D} {Q : DK} {Sty : Mst → Prop} (hc : M c = none) (hS : ∀ acc, Sty (put M c (.lst acc))) (hl : ds.length ≤ 100000) (f : D → D)
    (step : ∀ d ∈ ds, ∀ (M' : Mst) (R : DK), Sub M M' → R (f d) M' → te DW0 ((wipeD p [b]).set b (some d)) M' R) (fin : Q (.lst (ds.map f)) M) : compL false Sty (gNameD b) qYes te [b] c p Q ds (put M c (.lst [])) := by
  refine compL_map hc (fun d => some (f d)) hS hl (fun d hd acc R hR => ?_) ?_
  · simp only [gNameD, qYes, if_true]
    exact step d hd _ _ ((Sub.refl M).put hc) hR
  · simp only [Bool.false_eq_true, if_false]
    rw [List.filterMap_eq_map']; exact fin
/-- by a relation: draws -/
theorem lcR {b : Nat} {te : DTE} {p : Rho} {M : Mst} {c : Addr} {ds : List D} {Q : DK} {Sty : Mst → Prop} (hc : M c = none) (hS : ∀ acc, Sty (put M c (.lst acc))) (hl : ds.length ≤ 100000) (P : D → D → Prop)
    (step : ∀ d ∈ ds, ∀ (M' : Mst) (R : DK), Sub M M' → (∀ y, P d y → R y M') → te DW0 ((wipeD p [b]).set b (some d)) M' R) (fin : ∀ ys, All2 P ds ys → Q (.lst ys) M) : compL false Sty (gNameD b) qYes te [b] c p Q ds (put M c (.lst [])) := by
  refine compL_rel hc (fun d o => ∃ y, o = some y ∧ P d y) hS ds [] (by simpa using hl) (fun d hd acc R hR => ?_) fun os hos => ?_
  · simp only [gNameD, qYes, if_true]
    exact step d hd _ _ ((Sub.refl M).put hc) fun y hy => hR _ ⟨y, rfl, hy⟩
  · simp only [Bool.false_eq_true, if_false, List.nil_append]
    have : ∃ ys, os.filterMap id = ys ∧ All2 P ds ys := by
      clear fin step hl hS
      induction hos with
      | nil => exact ⟨[], rfl, .nil⟩
      | cons h _ ih =>
        obtain ⟨y, rfl, hy⟩ := h
        obtain ⟨ys, e, a⟩ := ih
        exact ⟨y :: ys, by simp [e], .cons hy a⟩
    obtain ⟨ys, e, a⟩ := this
    rw [e]; exact fin ys a
theorem All2.mem {α β : Type} {P : α → β → Prop} {as : List α} {bs : List β} (h : All2 P as bs) : ∀ b ∈ bs, ∃ a ∈ as, P a b := by
  induction h with
  | nil => intro b hb; cases hb
  | cons h _ ih =>
    intro b hb
    rcases List.mem_cons.mp hb with rfl | hb
    · exact ⟨_, List.mem_cons_self .., h⟩
    · obtain ⟨a, ha, hp⟩ := ih b hb; exact ⟨a, List.mem_cons_of_mem _ ha, hp⟩
abbrev LETT : Str := lit "abcdefghijklmnopqrstuvwxyz"
def lettB (z : Str) : Bool := z.cps.toList.all fun c => decide (97 ≤ c) && decide (c ≤ 122)
theorem in_lett : ∀ c, c < 127 → inS (one c) LETT = (decide (97 ≤ c) && decide (c ≤ 122)) := by decide +kernel
theorem lett_all {z : Str} (h : Pr z) : ((z.cps.toList.map fun c => inS (one c) LETT).all id) = lettB z := by
  unfold lettB
  rw [List.all_map]
  have : ∀ l : List Nat, (∀ c ∈ l, 32 ≤ c ∧ c ≤ 126) → l.all (id ∘ fun c => inS (one c) LETT) = l.all fun c => decide (97 ≤ c) && decide (c ≤ 122) := fun l => by
    induction l with
    | nil => intro _; rfl
    | cons c r ih =>
      intro h
      rw [List.all_cons, List.all_cons, ih fun d hd => h d (List.mem_cons_of_mem _ hd)]
      simp only [Function.comp, id]
      rw [in_lett c (by have := h c (List.mem_cons_self ..); omega)]
  exact this _ h
def inLett : D → D
  | .str y => .bl (inS y LETT)
  | d => d
def nameS (z : Str) : Bool := (decide (1 ≤ z.length) && decide (z.length ≤ 8)) && lettB z
def nameD : D → Bool
  | .str z => nameS z
  | _ => false
theorem chain_len {lo hi : Nat} {z : Nat} {M : Mst} {Q : DK} : dCmpI (fun i j => decide (i ≤ j)) (.int (lo : Int)) (.int (z : Int)) M (fun z_1 M3 => match z_1 with
    | .bl k => if k = true then dCmpI (fun i j => decide (i ≤ j)) (.int (z : Int)) (.int (hi : Int)) M3 Q else Q (.bl false) M3
    | _ => False) = Q (.bl (decide (lo ≤ z) && decide (z ≤ hi))) M := by
  have e1 : decide ((lo : Int) ≤ (z : Int)) = decide (lo ≤ z) := decide_eq_decide.mpr (by omega)
  have e2 : decide ((z : Int) ≤ (hi : Int)) = decide (z ≤ hi) := decide_eq_decide.mpr (by omega)
  simp only [dCmpI_i, e1, e2]
  cases decide (lo ≤ z) <;> simp
def wholeD (lo hi : Int) : D → Bool
  | .int i => decide (lo ≤ i) && decide (i ≤ hi)
  | _ => false
def qIsName : DTS := (qSeq (qIfS (qOr (qNot (qTB (qCB dIsi (qCons (qVar 0) (qCons (qC (.ty "str")) qNil))))) (qNot (qTB (qChain (dCmpI fun i j => decide (i ≤ j)) (dCmpI fun i j => decide (i ≤ j)) (qC (.int 1)) (qCB dLen (qCons (qVar 0) qNil)) (qC (.int 8))))))
  (qRet (qC (.bl false)))
  qNext)
  (qRet (qCB dAll (qCons (qLc false (qiAny (qVar 0)) (gNameD 1) qYes (qOp (dIn false) (qVar 1) (qC (.str (PySem.Str.ofString "abcdefghijklmnopqrstuvwxyz")))) [1]) qNil))))
def spIsName : DSp := fun ds M Q _ => ∃ (n : Nat) (x : D), ds = [x] ∧ n ≤ 100000 ∧ Pl n x ∧ Q (.bl (nameD x)) M
theorem name_ok (ds : List D) (M : Mst) (Q : DK) (Ed : DX → Mst → Prop) (h : upSp spIsName ds M Q Ed) : qIsName (fun x _ M => Ed x M) (retE Q) (startD ["thing", "sign"] ds) M := by
  obtain ⟨Q0, E0, ⟨n, x, rfl, hn, hx, k0⟩, kq, _⟩ := h
  have k : Q (.bl (nameD x)) M := kq _ _ _ (Sub.refl _) k0
  show qIsName _ _ [some x, none] M
  simp only [qIsName, qOr, qNot, qChain, qSeq, qAsg, qTup, qCons, qNil, qOp, qUn, qC, qCall, qVar, qLst, newL_f, qIfS, qTB, qNext, qRet, qDrop, qFor, qCB, qAug, qSl, qPart, qNoPart, gNameD, gSub_eq, dInt_i, dInt0_i, dAdd_i, dCmpI_i, List.set_cons_zero, List.set_cons_succ, List.getElem?_cons_zero, List.getElem?_cons_succ, List.append_nil]
  rw [isi_str hx]
  cases x with
  | str z =>
    have T := hx.strI
    simp only [strB, Bool.not_true, Bool.false_eq_true, if_false, z_len_str]
    refine (chain_len (lo := 1) (hi := 8)).mpr ?_
    have k : Q (.bl ((decide (1 ≤ z.length) && decide (z.length ≤ 8)) && lettB z)) M := k
    cases hc : decide (1 ≤ z.length) && decide (z.length ≤ 8) with
    | false => rw [hc] at k; simp only [Bool.not_false, if_true]; exact k
    | true =>
      rw [hc] at k
      simp only [Bool.not_true, Bool.false_eq_true, if_false]
      simp only [qLc, qiAny, qVar, List.getElem?_cons_zero]
      intro c hc
      refine lcN hc (fun _ => trivial) (by unfold signs; rw [List.length_map, Array.length_toList]; exact Nat.le_trans T.len hn) inLett (fun d hd M' R S hR => ?_) ?_
      · unfold signs at hd
        obtain ⟨c, _, rfl⟩ := List.mem_map.mp hd
        show dIn false (.str (one c)) (.str LETT) M' R
        rw [z_inS, Bool.false_xor]
        exact hR
      · have e : (signs z).map inLett = (z.cps.toList.map fun c => inS (one c) LETT).map D.bl := by
          unfold signs; rw [List.map_map, List.map_map]; rfl
        rw [e, all_bls, lett_all T.pr]; exact k
  | _ => simp only [strB, Bool.not_false, if_true]; exact k
/-- a tuple's item at a known place -/
theorem ix_tn {ds : List D} {i : Nat} {d : D} {M : Mst} {Q : DK} (h : ds[i]? = some d) : dIx (.tup ds) (.int (i : Int)) M Q = Q d M := ix_t (by rw [atI_n]; exact h)
theorem ix_ln {ds : List D} {i : Nat} {d : D} {M : Mst} {Q : DK} (h : ds[i]? = some d) : dIx (.lst ds) (.int (i : Int)) M Q = Q d M := ix_l (by rw [atI_n]; exact h)
@[simp] theorem z_ix_t2 {a b c : D} {ds : List D} {M : Mst} {Q : DK} : dIx (.tup (a :: b :: c :: ds)) (.int 2) M Q = Q c M := ix_tn (i := 2) rfl
@[simp] theorem z_ix_t3 {a b c e : D} {ds : List D} {M : Mst} {Q : DK} : dIx (.tup (a :: b :: c :: e :: ds)) (.int 3) M Q = Q e M := ix_tn (i := 3) rfl
@[simp] theorem z_ix_l2 {a b c : D} {ds : List D} {M : Mst} {Q : DK} : dIx (.lst (a :: b :: c :: ds)) (.int 2) M Q = Q c M := ix_ln (i := 2) rfl
@[simp] theorem z_ix_l3 {a b c e : D} {ds : List D} {M : Mst} {Q : DK} : dIx (.lst (a :: b :: c :: e :: ds)) (.int 3) M Q = Q e M := ix_ln (i := 3) rfl
end DL
namespace DL
open PySem L2 Tx20 Tx21
/-- a tuple, its object known or not -/
def seqD : D → Option (List D)
  | .tup ds => some ds
  | .xtp ds => some ds
  | _ => none
/-- what is handed in: plain data, or a tuple of them whose object is known -/
inductive Th (n : Nat) : D → Prop
  | pl {x : D} (h : Pl n x) : Th n x
  | xt {ds : List D} (hl : ds.length ≤ n) (h : ∀ d ∈ ds, Pl n d) : Th n (.xtp ds)
section
variable {n : Nat} {x : D} {M : Mst} {Q : DK}
theorem Th.seq (h : Th n x) {ds : List D} (e : seqD x = some ds) : ds.length ≤ n ∧ ∀ d ∈ ds, Pl n d := by
  cases h with
  | pl h =>
    cases h with
    | tup a b => cases e; exact ⟨a, b⟩
    | _ => cases e
  | xt a b => cases e; exact ⟨a, b⟩
end
end DL
namespace DL
open PySem L2 Tx20 Tx21
section
variable {n : Nat} {x : D} {M : Mst} {Q : DK}
theorem pick_x {ds : List D} {r : Int} (h0 : 0 ≤ r) (h1 : r < ds.length) (h : ∀ d ∈ ds, Q d M) : dIx (.xtp ds) (.int r) M Q := by
  obtain ⟨x, hx, hm⟩ := atI_some h0 h1
  rw [ix_x hx]; exact h x hm
end
theorem cc {d : D} {rest : DTA} {DW p} {QA : List D → Mst → Prop} (h : rest DW p M (fun ds M => QA (d :: ds) M)) : qCons (qC d) rest DW p M QA := h
end DL
namespace DL
open PySem L2 Tx20 Tx21
/-- signs drawn, told by a relation -/
theorem ones_of {P : Nat → Prop} {ds ys : List D} (h : All2 (fun _ y => ∃ c : Nat, y = .str (one c) ∧ P c) ds ys) : ∃ cs : List Nat, ys = (cs.map one).map D.str ∧ cs.length = ds.length ∧ ∀ c ∈ cs, P c := by
  induction h with
  | nil => exact ⟨[], rfl, rfl, fun _ h => (by cases h)⟩
  | cons h _ ih =>
    obtain ⟨c, rfl, hz⟩ := h
    obtain ⟨w, e, l, a⟩ := ih
    exact ⟨c :: w, by simp [e], by simp [l], fun x hx => by
      rcases List.mem_cons.mp hx with rfl | hx
      · exact hz
      · exact a x hx⟩
def Low (c : Nat) : Prop := 97 ≤ c ∧ c ≤ 122
theorem lett_low : ∀ c ∈ (PySem.Str.ofString "abcdefghijklmnopqrstuvwxyz").cps.toList, 97 ≤ c ∧ c ≤ 122 := by decide +kernel
theorem lett_at : ∀ i, i < 26 → (PySem.Str.ofString "abcdefghijklmnopqrstuvwxyz").cps.toList[i]? = some (97 + i) := by decide +kernel
/-- letters[i] -/
theorem ix_lett {i : Nat} {M : Mst} {Q : DK} (hi : i < 26) (h : Q (.str (one (97 + i))) M) : dIx (.str (PySem.Str.ofString "abcdefghijklmnopqrstuvwxyz")) (.int (i : Int)) M Q := by
  unfold dIx
  simp only [dgetD, res_str, atI_n, lett_at i hi]
  exact h
theorem nameS_of {z : Str} (h0 : 1 ≤ z.length) (h1 : z.length ≤ 8) (h : ∀ c ∈ z.cps.toList, Low c) : nameS z = true := by
  unfold nameS lettB
  simp only [Bool.and_eq_true, decide_eq_true_eq, List.all_eq_true]
  exact ⟨⟨h0, h1⟩, fun c hc => h c hc⟩
theorem app_list {x y : Str} : (x ++ y).cps.toList = x.cps.toList ++ y.cps.toList := by
  show (x.cps ++ y.cps).toList = _
  rw [Array.toList_append]
theorem nd_of_map {α β : Type} {f : α → β} : ∀ {l : List α}, (l.map f).Nodup → l.Nodup
  | [], _ => List.nodup_nil
  | x :: l, h => by
    rw [List.map_cons, List.nodup_cons] at h
    rw [List.nodup_cons]
    exact ⟨fun hx => h.1 (List.mem_map_of_mem hx), nd_of_map h.2⟩
end DL
namespace DL
open PySem L2 Tx20 Tx21
def strEq : D → Str → Bool
  | .str y, z => decide (y = z)
  | _, _ => false
/-- (word, whole numbers within bounds) -/
def isB (w : Str) (bs : List (Int × Int)) : D → Bool
  | .tup (a :: r) => decide (r.length = bs.length) && (strEq a w && (r.zip bs).all fun p => wholeD p.2.1 p.2.2 p.1)
  | _ => false
def midB (x : D) : Bool := (isB (lit "hose") [(1, 20), (-60, 60)] x || isB (lit "pump") [(0, 120), (1, 5000)] x) || isB (lit "leak") [(0, 1000)] x
def nozB (x : D) : Bool := isB (lit "nozzle") [(0, 2000), (0, 100)] x
end DL
namespace DL
open PySem L2 Tx20 Tx21
end DL
namespace DL
open PySem L2 Tx20 Tx21
inductive LT where
  | noz (ms : List D) (z : D)
  | frk (ms : List D) (a b : LT)
def LT.d : LT → D
  | .noz ms z => .tup (ms ++ [z])
  | .frk ms a b => .tup (ms ++ [.tup [.str (lit "fork"), a.d, b.d]])
def LT.js : LT → List D
  | .noz ms z => ms ++ [z]
  | .frk ms a b => ms ++ a.js ++ b.js
def LT.n (t : LT) : Nat := t.js.length
def MidsOk (ms : List D) : Prop := (∀ m ∈ ms, midB m = true) ∧ ms.length ≤ 7
def LT.ok : Nat → LT → Prop
  | _, .noz ms z => MidsOk ms ∧ nozB z = true
  | 0, .frk _ _ _ => False
  | f + 1, .frk ms a b => MidsOk ms ∧ a.ok f ∧ b.ok f
end DL
namespace DL
open PySem L2 Tx20 Tx21
@[simp] theorem z_isX {a : Addr} {d : Option Addr} {b : Bool} {c : D} {ns : List Str} {ys : List D} {M : Mst} {Q : DK} : dIsX a d b c [.exc a d ns ys, c] M Q = Q (.bl b) M :=
  propext ⟨fun ⟨_, _, e, h⟩ => h, fun h => ⟨_, _, rfl, h⟩⟩
end DL
namespace DL
open PySem L2 Tx20 Tx21
theorem LT.ok.up : ∀ {f g : Nat} {t : LT}, t.ok f → f ≤ g → t.ok g
  | 0, 0, .noz ms z, h, _ => h
  | 0, _ + 1, .noz ms z, h, _ => h
  | _ + 1, _ + 1, .noz ms z, h, _ => h
  | 0, _, .frk _ _ _, h, _ => h.elim
  | f + 1, g + 1, .frk ms a b, h, l => ⟨h.1, h.2.1.up (by omega), h.2.2.up (by omega)⟩
end DL
set_option maxHeartbeats 1000000
namespace DL
open PySem PySem.Spec PySem.W PySem.Calls PyProof.Rows L2
open LamX
end DL
set_option maxHeartbeats 2000000
namespace DL
open PySem PySem.Spec PyProof.Rows L2
/-- one instance is handed over; what comes back is fit -/
def rOwn1 (C : Addr) (fit : V → Prop) (sp : Sp) : List V → Hp → VK → Prop := fun xs H Q => ∃ a dx fs, xs = [.ref a] ∧ H a = some (.ins C dx fs) ∧ sp [.ref a] H (fun v H' => fit v ∧ Q v H') fun _ _ _ => False
section
variable {X : Cx} {C f : Addr} {fd : FuncData} {ps : List Str} {k : Nat} {sp : Sp}
theorem run_own1 {A : Around} {pins : List (Addr × Obj)} {σ : L2.St} {H : Hp} {s : Shared} {a : Addr} {Q : VK} (F : FnOk X.prog X.w X.K X.mg X.base (L2.CX X.prog X.w) k f fd ps sp) (hb : L2.Binds X.K fd ps []) (hr : Room k A) (fr : A.frames = X.A.frames) (I : Inv X pins σ H s)
    (h : sp [.ref a] H Q fun _ _ _ => False) :
    wpAny (model X.prog X.w) A (call (.ref f) [.ref a]) (EP X pins σ Q) X.xe s := by
  have hl := F.len _ _ _ _ h
  have e0 : Env0 X.prog X.w X.K X.mg X.base A X.stack s H := by
    have e := I.env0
    exact ⟨by rw [fr]; exact e.frames, e.mod, e.bs, e.bsz, e.funs, e.frf, e.hok, e.bare⟩
  have r2 : Vals [V.ref a] [Value.ref a] := .cons rfl .nil
  refine wpAny_call (codeAny_mono (F.run A X.stack s H ⟨[.ref a], []⟩ [.ref a] [.ref a] _ _ hr e0 (by
    have := hb s [.ref a] I.kIn (by simpa using hl)
    simpa using this) r2 h) fun r s' hq => ?_)
  cases r with
  | error e => exact passL pins σ H s e s' I hq
  | ok fl =>
    cases fl with
    | ret w => exact I.after hq
    | next => exact False.elim hq
    | brk => exact False.elim hq
    | cont => exact False.elim hq
def fitStr : V → Prop | .str _ => True | _ => False
theorem call_reprO (F : FnOk X.prog X.w X.K X.mg X.base (L2.CX X.prog X.w) k f fd ps sp) (hm : Meth X.K C "__repr__" f) (hb : L2.Binds X.K fd ps []) (hr : Room (k + 1) X.A) : CallR X (.builtin "repr") (rOwn1 C fitStr sp) := by
  intro pins s σ H xs us Q I rx h
  obtain ⟨a, dx, fs, rfl, ha, hq⟩ := h
  obtain ⟨u, rfl, r1⟩ : ∃ u, us = [u] ∧ RelV (.ref a) u := by
    cases rx with
    | cons h1 h2 => cases h2; exact ⟨_, rfl, h1⟩
  cases r1
  obtain ⟨mA, J, _⟩ := ins_get I.hok ha
  obtain ⟨od, J, _⟩ := J.look
  obtain ⟨m, hF⟩ := I.fr
  have hr1 : Room k X.A.in1 := hr.in1
  refine PySem.W.repr_K hr1.units0 hF I.ok.mod.kin J hm.at_ hm.fn (wpAny_mono (run_own1 (A := X.A.in1) F hb hr1 rfl I hq) (fun v s' z => ?_) fun _ _ e => e)
  obtain ⟨w, H', I', rv, fit, q⟩ := z
  cases w <;> first | exact fit.elim | skip
  next n =>
    obtain ⟨t, rfl⟩ := rv
    exact ⟨.str n, H', I', ⟨_, rfl⟩, q⟩
end
def dOwn1 (C : Addr) (fit : D → Prop) (P : DSp) : DCa := fun ds M Q => (∃ ns es, ds = [.ins C ns es]) ∧ P ds M (fun d M' => fit d ∧ Q d M') fun _ _ => False
def fitLenD : D → Prop | .int n => 0 ≤ n ∧ n < 2 ^ 63 | _ => False
def fitStrD : D → Prop | .str _ => True | _ => False
theorem ref_own1 {K : PySem.W.Frag} {C : Addr} {fit : V → Prop} {fitD : D → Prop} {P : DSp} (hf : ∀ G d v, fitD d → Rep K G d v → fit v) : RefC K (rOwn1 C fit (toSp K P)) (dOwn1 C fitD P) := fun G H p M s ds vs Q Q' S r1 ⟨⟨ns, es, e⟩, h⟩ k => by
  subst e
  obtain ⟨v, rfl, r⟩ := repL1 r1
  obtain ⟨a, dx, fs, rfl, g1, _, _⟩ := r
  refine ⟨a, dx, fs, rfl, S.same _ _ g1, ?_⟩
  refine ⟨G, _, M, _, _, S.same, r1, S.mem, h, fun G' H' v d M' e1 e2 r hm ⟨ft, q⟩ => ⟨hf G' d v ft r, ?_⟩, fun _ _ _ _ _ _ _ _ _ _ z => z⟩
  have S' : Sim K G' H' p M' s := ⟨e2, fun i d hd => by
    obtain ⟨v, h1, h2⟩ := S.env i d hd
    exact ⟨v, h1, Rep.mono e1 _ _ h2⟩, S.len, hm⟩
  exact k G' H' M' d v e1 S' r q
section
variable {X : Cx} {C f : Addr} {fd : FuncData} {ps : List Str} {k : Nat} {P : DSp}
theorem c_reprO (F : FnOk X.prog X.w X.K X.mg X.base (L2.CX X.prog X.w) k f fd ps (toSp X.K P)) (hm : Meth X.K C "__repr__" f) (hb : L2.Binds X.K fd ps []) (hr : Room (k + 1) X.A) : QCa X (.builtin "repr") (rOwn1 C fitStr (toSp X.K P)) (dOwn1 C fitStrD P) :=
  ⟨call_reprO F hm hb hr, ref_own1 fun G d v h r => by
    cases d <;> first | exact h.elim | skip
    obtain ⟨rfl, _⟩ := r; exact trivial⟩
end
def nfT (T : String) : Bool := T == "NoneType" || T == "bool" || T == "int" || T == "str" || T == "tuple" || T == "list" || T == "dict"
theorem nf_of {K : PySem.W.Frag} {C : Addr} {T : String} (h : nfT T = true) : PySem.W.notFirst K C (.type T) = true := by
  simp only [nfT, Bool.or_eq_true, beq_iff_eq] at h
  rcases h with (((((rfl | rfl) | rfl) | rfl) | rfl) | rfl) | rfl <;> rfl
def rOwnX (K : PySem.W.Frag) (neg : Bool) (C : Addr) (sp : Sp) : R2 := fun x y H Q => ∃ a dx fs T, x = .ref a ∧ H a = some (.ins C dx fs) ∧ TyX K H y (.type T) ∧ nfT T = true ∧ sp [.ref a, y] H (fun v H' => ∃ r, v = .bl r ∧ Q (.bl (xor neg r)) H') fun _ _ _ => False
section
variable {X : Cx} {C f : Addr} {fd : FuncData} {ps : List Str} {k : Nat} {sp : Sp}
theorem run_own2 {A : Around} {pins : List (Addr × Obj)} {σ : L2.St} {H : Hp} {s : Shared} {a : Addr} {y : V} {u : Value} {Q : VK} (F : FnOk X.prog X.w X.K X.mg X.base (L2.CX X.prog X.w) k f fd ps sp) (hb : L2.Binds X.K fd ps []) (hr : Room k A) (fr : A.frames = X.A.frames) (I : Inv X pins σ H s) (ry : RelV y u)
    (h : sp [.ref a, y] H Q fun _ _ _ => False) :
    wpAny (model X.prog X.w) A (call (.ref f) [.ref a, u]) (EP X pins σ Q) X.xe s := by
  have hl := F.len _ _ _ _ h
  have e0 : Env0 X.prog X.w X.K X.mg X.base A X.stack s H := by
    have e := I.env0
    exact ⟨by rw [fr]; exact e.frames, e.mod, e.bs, e.bsz, e.funs, e.frf, e.hok, e.bare⟩
  have r2 : Vals [V.ref a, y] [Value.ref a, u] := .cons rfl (.cons ry .nil)
  refine wpAny_call (codeAny_mono (F.run A X.stack s H ⟨[.ref a, u], []⟩ [.ref a, u] [.ref a, y] _ _ hr e0 (by
    have := hb s [.ref a, u] I.kIn (by simpa using hl)
    simpa using this) r2 h) fun r s' hq => ?_)
  cases r with
  | error e => exact passL pins σ H s e s' I hq
  | ok fl =>
    cases fl with
    | ret w => exact I.after hq
    | next => exact False.elim hq
    | brk => exact False.elim hq
    | cont => exact False.elim hq
theorem op_ownX_eq (F : FnOk X.prog X.w X.K X.mg X.base (L2.CX X.prog X.w) k f fd ps sp) (hm : Meth X.K C "__eq__" f) (hb : L2.Binds X.K fd ps []) (hr : Room k X.A) : OpR X (compareOp .Eq) (rOwnX X.K false C sp) := by
  intro pins s σ H x y v u Q I rx ry h
  obtain ⟨a, dx, fs, T, rfl, ha, ty, nf, hq⟩ := h
  cases rx
  obtain ⟨mA, J, _⟩ := ins_get I.hok ha
  obtain ⟨od, J, _⟩ := J.look
  obtain ⟨P, kx, hP, _⟩ := kit_of I ry ty
  obtain ⟨m, hF⟩ := I.fr
  show wpAny (model X.prog X.w) X.A (richCompare .Eq (.ref a) u) (EP X pins σ Q) X.xe s
  refine PySem.W.cmp_K (op := .Eq) (tb := .type T) hr.units0 hF I.ok.mod.kin J (kx.ty _ _ I.kIn hP) (nf_of nf) hm.at_ hm.fn ?_
  refine wpAny_mono (run_own2 F hb hr rfl I ry hq) (fun v s' z => ?_) fun _ _ e => e
  obtain ⟨w, H', I', rv, r, rfl, q⟩ := z
  cases rv
  rw [Bool.false_xor] at q
  exact ⟨.bl r, H', I', rfl, q⟩
end
def dOwnX (neg : Bool) (C : Addr) (P : DSp) : DOp := fun x y M Q => (∃ ns ds, x = .ins C ns ds) ∧ hasTy (res M y) = true ∧ nfT (tyD (res M y)) = true ∧ P [x, y] M (fun d M' => ∃ r, d = .bl r ∧ Q (.bl (xor neg r)) M') fun _ _ => False
theorem ref_ownX {K : PySem.W.Frag} {neg : Bool} {C : Addr} {P : DSp} : RefR2 K (rOwnX K neg C (toSp K P)) (dOwnX neg C P) := fun G H p M s x y v u Q Q' S r1 r2 ⟨⟨ns, ds, e1⟩, h1, h2, h⟩ k => by
  subst e1
  have rl : RepL K G [.ins C ns ds, y] [v, u] := RepL.cons r1 (RepL.cons r2 rfl)
  obtain ⟨a, dx, fs, rfl, g1, _, _⟩ := r1
  refine ⟨a, dx, fs, tyD (res M y), rfl, S.same _ _ g1, tyX_of S r2 h1, h2, ?_⟩
  refine ⟨G, _, M, _, _, S.same, rl, S.mem, h, fun G' H' v d M' e1 e2 r hm ⟨t, ed, q⟩ => ?_, fun _ _ _ _ _ _ _ _ _ _ z => z⟩
  subst ed
  cases r
  refine ⟨t, rfl, ?_⟩
  have S' : Sim K G' H' p M' s := ⟨e2, fun i d hd => by
    obtain ⟨v, h1, h2⟩ := S.env i d hd
    exact ⟨v, h1, Rep.mono e1 _ _ h2⟩, S.len, hm⟩
  exact k G' H' M' (.bl (xor neg t)) _ e1 S' rfl q
section
variable {X : Cx} {C f : Addr} {fd : FuncData} {ps : List Str} {k : Nat} {P : DSp}
theorem o_ownXEq (F : FnOk X.prog X.w X.K X.mg X.base (L2.CX X.prog X.w) k f fd ps (toSp X.K P)) (hm : Meth X.K C "__eq__" f) (hb : L2.Binds X.K fd ps []) (hr : Room k X.A) : QOp X (compareOp .Eq) (rOwnX X.K false C (toSp X.K P)) (dOwnX false C P) := ⟨op_ownX_eq F hm hb hr, ref_ownX⟩
end
end DL
set_option maxHeartbeats 2000000
namespace DL
open PySem PySem.Spec PyProof.Rows L2
theorem Sim.back {K : PySem.W.Frag} {G G' H H' : Hp} {p : Rho} {M M' : Mst} {s : L2.St} (S : Sim K G H p M s) (e : Same G G') (e2 : Same G' H') (hm : MemOk K G' H' M') : Sim K G' H' p M' s :=
  ⟨e2, fun i d hd => by
    obtain ⟨v, h1, h2⟩ := S.env i d hd
    exact ⟨v, h1, Rep.mono e _ _ h2⟩, S.len, hm⟩
section
open AutoSeq1 (wpAny_loadPart')
open MeetsSeq MeetsSeq2 MeetsSeq3 SeqRoads2
theorem contains_loopG {prog : Program} {w : World} {A : Around} {R : Result → Shared → Prop} (l : Addr) (x : Value) (N : Nat) (I : Nat → Shared → Prop)
    (step : ∀ i s, I i s → ∃ (items : Array Value) (n : Nat), s.heap.get? l = some { cls := .type "list", data := .seq items n } ∧ items.size = N ∧
      ∀ h : i < items.size, wpAny (model prog w) A.in1 (eqBool items[i] x) (fun r s' => if r = true then R (.ok (.ret (.bool true))) s' else I (i + 1) s') (fun e s' => R (.error e) s') s)
    (fin : ∀ s, I N s → R (.ok (.ret (.bool false))) s) (k : Nat) :
    ∀ i : Nat, N - i = k → i ≤ N → ∀ s, I i s →
      wpAny (model prog w) A.in1 (Builtin.«list.__contains__.loop» ⟨[.ref l, x, rawInt i], []⟩) (GQ.FinOf prog w A R) (fun e s' => R (.error e) s') s := by
  induction k with
  | zero =>
    intro i hk hi s h
    obtain ⟨items, n, hl, hs, _⟩ := step _ _ h
    have hi' : i = N := by omega
    have hR := fin s (hi' ▸ h)
    obtain ⟨hp, g, d, tk, os⟩ := s
    wp_walk using wpAny_loadPart' hl
    have h1 : items[((i : Nat) : Int).toNat]? = none := by simp; omega
    rw [h1]
    wp_walk
    exact hR
  | succ k ih =>
    intro i hk hi s h
    obtain ⟨items, n, hl, hs, turn⟩ := step _ _ h
    have hlt : i < items.size := by omega
    have ht := turn hlt
    obtain ⟨hp, g, d, tk, os⟩ := s
    wp_walk using wpAny_loadPart' hl
    have h1 : items[((i : Nat) : Int).toNat]? = some items[i] := by simp [hlt]
    have hc : ((i : Int) + 1) = ((i + 1 : Nat) : Int) := by omega
    rw [h1]
    refine wpAny_bind (wpAny_mono ht (fun r s2 h2 => ?_) fun _ _ x => x)
    cases r with
    | true =>
      obtain ⟨hp2, g2, d2, tk2, os2⟩ := s2
      rw [if_pos rfl] at h2
      wp_walk
      exact h2
    | false =>
      rw [if_neg Bool.false_ne_true] at h2
      have hrec := ih (i + 1) (by omega) (by omega) s2 h2
      obtain ⟨hp2, g2, d2, tk2, os2⟩ := s2
      wp_walk
      rw [hc]
      exact ⟨plainId_quiet plain_contains_loop _, codeAny_builtin entry_contains_loop (by
        rw [Around.under_plainId plain_contains_loop _]
        exact hrec)⟩
theorem in_listG {prog : Program} {w : World} {A : Around} {E : Value → Shared → Prop} {s : Shared} {Q : Value → Shared → Prop} (l : Addr) (x : Value) (N : Nat) (I : Nat → Shared → Prop)
    (step : ∀ i s, I i s → ∃ (items : Array Value) (n : Nat), s.heap.get? l = some { cls := .type "list", data := .seq items n } ∧ items.size = N ∧
      ∀ h : i < items.size, wpAny (model prog w) A.in1 (eqBool items[i] x) (fun r s' => if r = true then Q (.bool true) s' else I (i + 1) s') E s)
    (fin : ∀ s, I N s → Q (.bool false) s) (h : I 0 s) : wpAny (model prog w) A (compareOp .In x (.ref l)) Q E s := by
  obtain ⟨items, n, hl, hs, _⟩ := step _ _ h
  show wpAny _ A (do return .bool (← contains (.ref l) x)) Q E s
  refine wpAny_bind (wpAny_contains_slot ⟨_, hl, rfl⟩ F.slot_list_contains (GQ.call_here F.slot_list_contains ⟨_, hl, rfl⟩ F.entry_list_contains (F.args_list_contains_2 _ _) ?_))
  have hrec := contains_loopG (A := A) (R := wants (fun v s' => wpAny (model prog w) A (truthy v) (fun b s'' => wpAny (model prog w) A (pure (Value.bool b)) Q E s'') E s') E) l x N I
    (fun i s hI => by
      obtain ⟨items, n, h1, h2, h3⟩ := step i s hI
      refine ⟨items, n, h1, h2, fun h => wpAny_mono (h3 h) (fun r s' z => ?_) fun _ _ z => z⟩
      cases r with
      | true => rw [if_pos rfl] at z ⊢; exact wpAny_truthy_bool (wpAny_pure z)
      | false => rw [if_neg Bool.false_ne_true] at z ⊢; exact z)
    (fun s hI => wpAny_truthy_bool (wpAny_pure (fin s hI))) _ 0 rfl (Nat.zero_le _) s h
  obtain ⟨hp, g, d, tk, os⟩ := s
  wp_walk using wpAny_loadPart' hl
  exact ⟨plainId_quiet plain_contains_loop _, codeAny_builtin entry_contains_loop (by
    rw [Around.under_plainId plain_contains_loop _]
    exact hrec)⟩
end
def sameC (d x : D) : Prop := ∃ (K : PySem.W.Frag) (G : Hp) (v : V), Rep K G d v ∧ Rep K G x v
mutual
def plainD : D → Bool
  | .non => true
  | .bl _ => true
  | .int _ => true
  | .str _ => true
  | .tup ds => plainDL ds
  | .lst ds => plainDL ds
  | _ => false
def plainDL : List D → Bool
  | [] => true
  | d :: ds => plainD d && plainDL ds
end
mutual
theorem plain_inj {K : PySem.W.Frag} {G : Hp} : ∀ (d x : D) (v : V), plainD d = true → plainD x = true → Rep K G d v → Rep K G x v → d = x
  | .non, x, v, _, hx, r1, r2 => by
    cases r1
    cases x <;> first | rfl | (cases hx; done) | (cases r2; done) | skip
    all_goals first | (obtain ⟨e, _⟩ := r2; cases e; done) | (obtain ⟨a, vs, e, _⟩ := r2; cases e; done)
  | .bl b, x, v, _, hx, r1, r2 => by
    cases r1
    cases x <;> first | (cases hx; done) | (cases r2; first | rfl | done) | skip
    all_goals first | (obtain ⟨e, _⟩ := r2; cases e; done) | (obtain ⟨a, vs, e, _⟩ := r2; cases e; done)
  | .int b, x, v, _, hx, r1, r2 => by
    cases r1
    cases x <;> first | (cases hx; done) | (cases r2; first | rfl | done) | skip
    all_goals first | (obtain ⟨e, _⟩ := r2; cases e; done) | (obtain ⟨a, vs, e, _⟩ := r2; cases e; done)
  | .str b, x, v, _, hx, r1, r2 => by
    obtain ⟨rfl, _⟩ := r1
    cases x <;> first | (cases hx; done) | (cases r2; done) | skip
    · obtain ⟨e, _⟩ := r2; cases e; rfl
    · obtain ⟨a, vs, e, _⟩ := r2; cases e
    · obtain ⟨a, vs, e, _⟩ := r2; cases e
  | .tup ds, x, v, hd, hx, r1, r2 => by
    obtain ⟨a, vs, rfl, g, rl, _⟩ := r1
    cases x <;> first | (cases hx; done) | (cases r2; done) | skip
    · obtain ⟨e, _⟩ := r2; cases e
    · obtain ⟨a', vs', e, g', rl', _⟩ := r2
      cases e
      rw [g] at g'; cases g'
      rw [plain_injL _ _ _ hd hx rl rl']
    · obtain ⟨a', vs', e, g', rl', _⟩ := r2
      cases e
      rw [g] at g'; cases g'
  | .lst ds, x, v, hd, hx, r1, r2 => by
    obtain ⟨a, vs, rfl, g, rl, _⟩ := r1
    cases x <;> first | (cases hx; done) | (cases r2; done) | skip
    · obtain ⟨e, _⟩ := r2; cases e
    · obtain ⟨a', vs', e, g', rl', _⟩ := r2
      cases e
      rw [g] at g'; cases g'
    · obtain ⟨a', vs', e, g', rl', _⟩ := r2
      cases e
      rw [g] at g'; cases g'
      rw [plain_injL _ _ _ hd hx rl rl']
  | .ktp _, _, _, hd, _, _, _ => by cases hd
  | .xtp _, _, _, hd, _, _, _ => by cases hd
  | .scr _, _, _, hd, _, _, _ => by cases hd
  | .ty _, _, _, hd, _, _, _ => by cases hd
  | .ref _, _, _, hd, _, _, _ => by cases hd
  | .dct _ _, _, _, hd, _, _, _ => by cases hd
  | .ins _ _ _, _, _, hd, _, _, _ => by cases hd
  | .exc _ _ _ _, _, _, hd, _, _, _ => by cases hd
  | .fnv _ _ _ _ _, _, _, hd, _, _, _ => by cases hd
theorem plain_injL {K : PySem.W.Frag} {G : Hp} : ∀ (ds xs : List D) (vs : List V), plainDL ds = true → plainDL xs = true → RepL K G ds vs → RepL K G xs vs → ds = xs
  | [], xs, vs, _, _, r1, r2 => by
    cases r1
    cases xs with
    | nil => rfl
    | cons x xs => obtain ⟨v, r, e, _⟩ := r2; cases e
  | d :: ds, xs, vs, hd, hx, r1, r2 => by
    obtain ⟨v, r, rfl, r3, r4⟩ := r1
    cases xs with
    | nil => cases r2
    | cons x xs =>
      obtain ⟨v', r', e, r5, r6⟩ := r2
      cases e
      simp only [plainDL, Bool.and_eq_true] at hd hx
      rw [plain_inj d x v hd.1 hx.1 r3 r5, plain_injL ds xs r hd.2 hx.2 r4 r6]
end
theorem sameC_ins {C C' : Addr} {ns ns' : List Str} {ds ds' : List D} (h1 : plainDL ds = true) (h2 : plainDL ds' = true) (h : sameC (.ins C ns ds) (.ins C' ns' ds')) : ds = ds' := by
  obtain ⟨K, G, v, ⟨a, dx, fs, rfl, g, _, rl⟩, ⟨a', dx', fs', e, g', _, rl'⟩⟩ := h
  cases e
  rw [g] at g'
  cases g'
  exact plain_injL _ _ _ h1 h2 rl rl'
def qFmt (qe : DTE) : DTE := fun DW p M Q => qe DW p M fun x M1 => match x with
  | .int i => i.natAbs.log2 < 1920 ∧ okS (Str.ofString (toString i)) ∧ Q (.str (Str.ofString (toString i))) M1
  | .str z => Q (.str z) M1
  | _ => False
theorem q_fmt {X : Cx} {W : WX} {e : Expr} {t : TE} {q : DTE} {pos : Pos} (h : QE X W e t q) : QE X W (.FormattedValue e (-1) none pos) (tFmt t) (qFmt q) :=
  ⟨pe_fmt h.pe, fun DW G H p M s Q Q' hw S hq k => h.rf DW G H p M s _ _ hw S hq fun G1 H1 M1 d v e1 S1 r1 z => by
    cases d <;> first | exact z.elim | skip
    · cases r1
      obtain ⟨z1, z2, z3⟩ := z
      exact .inr ⟨_, rfl, z1, k G1 H1 M1 (.str _) _ e1 S1 (okS_rep z2) z3⟩
    · obtain ⟨rfl, z2⟩ := r1
      exact .inl ⟨_, rfl, z2.1, k G1 H1 M1 (.str _) _ e1 S1 ⟨rfl, z2⟩ z⟩⟩
def qJs : List DTE → Str → DTE
  | [], acc => fun _ _ M Q => Q (.str acc) M
  | q :: qs, acc => fun DW p M Q => q DW p M fun x M1 => match x with
    | .str y => (acc ++ y).length ≤ sizeLine ∧ qJs qs (acc ++ y) DW p M1 Q
    | _ => False
inductive QJ (X : Cx) (W : WX) : List Expr → List TE → List DTE → Prop where
  | nil : QJ X W [] [] []
  | cons {e : Expr} {t : TE} {q : DTE} {es : List Expr} {ts : List TE} {qs : List DTE} (h : QE X W e t q) (r : QJ X W es ts qs) : QJ X W (e :: es) (t :: ts) (q :: qs)
theorem QJ.pj {X : Cx} {W : WX} {es : List Expr} {ts : List TE} {qs : List DTE} (h : QJ X W es ts qs) : PJ X es ts := by
  induction h with
  | nil => exact .nil
  | cons h _ ih => exact .cons h.pe ih
theorem QJ.rf {X : Cx} {W : WX} {es : List Expr} {ts : List TE} {qs : List DTE} (h : QJ X W es ts qs) : ∀ (acc : Str), acc.length ≤ sizeLine → PyData.strOk acc = true → RefE X.K W (fun σ H Q => tJs ts acc σ H fun out H1 => Q (.str out) H1) (qJs qs acc) := by
  induction h with
  | nil => exact fun acc h1 h2 DW G H p M s Q Q' hw S hq k => k G H M (.str acc) _ (Same.refl _) S ⟨rfl, h1, h2⟩ hq
  | cons h _ ih =>
    intro acc h1 h2 DW G H p M s Q Q' hw S hq k
    refine h.rf DW G H p M s _ _ hw S hq fun G1 H1 M1 d v e1 S1 r1 z => ?_
    cases d <;> first | exact z.elim | skip
    obtain ⟨rfl, z2⟩ := r1
    refine ⟨_, rfl, z.1, ?_⟩
    exact ih _ z.1 (strOk_append h2 z2.2) DW G1 H1 p M1 s Q Q' (WLink.mono e1 hw) S1 z.2 fun G2 H2 M2 d v e2 S2 r2 z2 => k G2 H2 M2 d v (e1.trans e2) S2 r2 z2
theorem q_joined {X : Cx} {W : WX} {v1 v2 : Expr} {rest : List Expr} {ts : List TE} {qs : List DTE} {pos : Pos} (h : QJ X W (v1 :: v2 :: rest) ts qs) : QE X W (.JoinedStr (v1 :: v2 :: rest) pos) (fun σ H Q => tJs ts Str.empty σ H fun out H1 => Q (.str out) H1) (qJs qs Str.empty) :=
  ⟨pe_joined h.pj, h.rf Str.empty (Nat.zero_le _) (by decide +kernel)⟩
end DL
set_option maxHeartbeats 2000000
namespace DL
open PySem PySem.Spec PyProof.Rows L2
theorem room65 {k : Nat} {A : Around} (r : Room k A) : A.units + 65 < cLine := by have := r.un; omega
theorem shaped_of {d : D} (h1 : (pyd d).canLay0 = true) (h2 : dep d ≤ 64) : SeqAt.shaped (pyd d) = true := by
  unfold SeqAt.shaped
  rw [h1, Bool.true_and]; exact decide_eq_true h2
theorem pyd_any (ds : List D) (x : D) : ((pydL ds).any fun z => PyData.eqv z (pyd x)) = ds.any fun e => deq e x := by
  induction ds with
  | nil => rfl
  | cons d ds ih => show (PyData.eqv (pyd d) (pyd x) || (pydL ds).any _) = _; rw [ih]; rfl
def dInD (neg : Bool) : DOp := fun x y M Q => match res M y with
  | .lst ds => isData (res M x) = true ∧ isData (.lst ds) = true ∧ dep (res M x) ≤ 64 ∧ dep (.lst ds) ≤ 64 ∧ Q (.bl (xor neg (ds.any fun e => deq e (res M x)))) M
  | _ => False
theorem o_inD {X : Cx} (hu : X.A.units + 65 < cLine) : QOp X (compareOp .In) (rInD X.K) (dInD false) := ⟨op_inD hu, fun G H p M s x y v u Q Q' S r1 r2 h k => by
  unfold dInD at h
  split at h
  · next ds e =>
    obtain ⟨i1, i2, d1, d2, q⟩ := h
    obtain ⟨a1, a2⟩ := data_of S r1 rfl i1
    obtain ⟨b1, b2⟩ := data_of S r2 e i2
    refine ⟨_, pydL ds, a1, b1, shaped_of a2 d1, shaped_of b2 d2, ?_⟩
    rw [pyd_any]
    rw [Bool.false_xor] at q
    exact k G H M (.bl _) _ (Same.refl _) S rfl q
  · exact h.elim⟩
theorem o_notInD {X : Cx} (hu : X.A.units + 65 < cLine) : QOp X (compareOp .NotIn) (rNotInD X.K) (dInD true) := ⟨op_notInD hu, fun G H p M s x y v u Q Q' S r1 r2 h k => by
  unfold dInD at h
  split at h
  · next ds e =>
    obtain ⟨i1, i2, d1, d2, q⟩ := h
    obtain ⟨a1, a2⟩ := data_of S r1 rfl i1
    obtain ⟨b1, b2⟩ := data_of S r2 e i2
    refine ⟨_, pydL ds, a1, b1, shaped_of a2 d1, shaped_of b2 d2, ?_⟩
    rw [pyd_any]
    rw [Bool.true_xor] at q
    exact k G H M (.bl _) _ (Same.refl _) S rfl q
  · exact h.elim⟩
end DL
set_option maxHeartbeats 2000000
namespace DL
open PySem PySem.Spec PyProof.Rows L2
def qPairs : List (DTE × DTE) → DWt → Rho → Mst → (List (D × D) → Mst → Prop) → Prop
  | [], _, _, M, Q => Q [] M
  | (qk, qv) :: r, DW, p, M, Q => qk DW p M fun k M1 => qv DW p M1 fun v M2 => qPairs r DW p M2 fun ps M3 => Q ((k, v) :: ps) M3
inductive QPs (X : Cx) (W : WX) (pos : Pos) : List (Option Expr) → List Expr → List (TE × TE) → List (DTE × DTE) → Prop where
  | nil : QPs X W pos [] [] [] []
  | cons {k v : Expr} {tk tv : TE} {qk qv : DTE} {ks : List (Option Expr)} {vs : List Expr} {ts : List (TE × TE)} {rs : List (DTE × DTE)} (hk : QE X W k tk qk) (hv : QE X W v tv qv) (r : QPs X W pos ks vs ts rs) : QPs X W pos (some k :: ks) (v :: vs) ((tk, tv) :: ts) ((qk, qv) :: rs)
theorem QPs.rf {X : Cx} {W : WX} {pos : Pos} {ks : List (Option Expr)} {vs : List Expr} {ts : List (TE × TE)} {rs : List (DTE × DTE)} (h : QPs X W pos ks vs ts rs) : ∀ DW G H p M s (Q : List (D × D) → Mst → Prop) (Q' : List (V × V) → Hp → Prop), WLink X.K G DW W → Sim X.K G H p M s → qPairs rs DW p M Q →
    (∀ G' H' M' ds us, Same G G' → Sim X.K G' H' p M' s → RepL X.K G' (ds.map (·.1)) (us.map (·.1)) → RepL X.K G' (ds.map (·.2)) (us.map (·.2)) → Q ds M' → Q' us H') → tPairs ts s H Q' := by
  induction h with
  | nil => exact fun DW G H p M s Q Q' hw S hq k => k G H M [] [] (Same.refl _) S rfl rfl hq
  | cons hk hv _ ih =>
    intro DW G H p M s Q Q' hw S hq k
    refine hk.rf DW G H p M s _ _ hw S hq fun G1 H1 M1 d v e1 S1 r1 h1 => ?_
    refine hv.rf DW G1 H1 p M1 s _ _ (hw.mono e1) S1 h1 fun G2 H2 M2 d2 v2 e2 S2 r2 h2 => ?_
    refine ih DW G2 H2 p M2 s _ _ (hw.mono (e1.trans e2)) S2 h2 fun G3 H3 M3 ds us e3 S3 r3 r4 h3 => ?_
    exact k G3 H3 M3 ((d, d2) :: ds) ((v, v2) :: us) (e1.trans (e2.trans e3)) S3 (RepL.cons (Rep.mono (e2.trans e3) _ _ r1) r3) (RepL.cons (Rep.mono e3 _ _ r2) r4) h3
end DL
namespace DL
open PySem PySem.Spec PyProof.Rows L2
end DL
namespace L2
open PySem PySem.Spec PyProof.Rows
end L2
namespace DL
open PySem PySem.Spec PyProof.Rows L2
end DL
namespace L2
open PySem PySem.Spec PyProof.Rows
end L2
namespace DL
open PySem PySem.Spec PyProof.Rows L2
end DL
namespace DL
open PySem PySem.Spec PyProof.Rows L2
def dOwnM (C : Addr) (fit : D → Prop) (P : DSp) : DCa := fun ds M Q => match ds with
  | [x] => (∃ ns es, insD M x = some (C, ns, es)) ∧ P [x] M (fun d M' => fit d ∧ Q d M') fun _ _ => False
  | _ => False
end DL
set_option maxHeartbeats 4000000
namespace L2
open PySem PySem.Spec PyProof.Rows
/-- the classes that a clause's test names -/
inductive TstX (X : Cx) : Expr → List Value → Prop
  | one {x : Str} {c : Value} {np : Pos} (h : Names X x c) : TstX X (.Name x np) [c]
  | tup2 {x1 x2 : Str} {c1 c2 : Value} {p1 p2 p : Pos} {k} (h1 : Names X x1 c1) (h2 : Names X x2 c2) : TstX X (.Tuple [.Name x1 p1, .Name x2 p2] k p) [c1, c2]
  | tup3 {x1 x2 x3 : Str} {c1 c2 c3 : Value} {p1 p2 p3 p : Pos} {k} (h1 : Names X x1 c1) (h2 : Names X x2 c2) (h3 : Names X x3 c3) : TstX X (.Tuple [.Name x1 p1, .Name x2 p2, .Name x3 p3] k p) [c1, c2, c3]
theorem name_ok {X : Cx} {E : Value → Shared → Prop} {pins : List (Addr × Obj)} {s : Shared} {σ : St} {H : Hp} {x : Str} {c : Value} {pos : Pos} {Q : Value → Shared → Prop} (hc : Names X x c) (S : Inv X pins σ H s) (q : Q c s) : wpAny (model X.prog X.w) X.A (eval (.Name x pos) X.env) Q E s := by
  obtain ⟨hg, hdbg, hm | ⟨hm, hv, hnn⟩⟩ := hc
  · exact ld_glob S hg hm q hdbg
  · exact ld_blt S hg hm hv q hnn hdbg
theorem flying_push {B : Heap} {l : List Env} {a : Addr} {Z : Obj → Prop} {h : Heap} {o : Obj} (fl : HandSPX.FlyingZ B l a Z h) : HandSPX.FlyingZ B l a Z (h.push o) ∧ h.UpToSlots (h.push o) := by
  obtain ⟨k1, k2, k3, oe, vs, T, oT, ts', he, hz, hd, h1, h2, h3, h4, h5, h6⟩ := fl
  exact ⟨⟨fun b u e => Heap.get?_push_of_some _ (k1 b u e), k2, Heap.FunFrames.of_keeps (fun b o e _ => ⟨o, Heap.get?_push_of_some _ e, rfl⟩) k3,
    oe, vs, T, oT, ts', Heap.get?_push_of_some _ he, hz, hd, h1, h2, h3, Heap.get?_push_of_some _ h4, h5, h6⟩, fun b u e _ => ⟨u.slots, Heap.get?_push_of_some _ e⟩⟩
theorem TstX.run {X : Cx} {t : Expr} {cs : List Value} (T : TstX X t cs) {pins : List (Addr × Obj)} {s : Shared} {σ : St} {H : Hp} {B : Heap} {l : List Env} {a : Addr} {cls : Value} {d : Option Addr} {b : Bool} {A2 : Around}
    {E1 E2 : Value → Shared → Prop} {Q : Bool → Shared → Prop} (S : Inv X pins σ H s) (fl : HandSPX.FlyingZ B l a (Zc cls d) s.heap) (hx : PySem.W.exmAny X.K cls cs = some b)
    (hq : ∀ h', HandSPX.FlyingZ B l a (Zc cls d) h' → s.heap.UpToSlots h' → Q b { s with heap := h' }) :
    wpAny (model X.prog X.w) X.A (eval t X.env) (fun c s1 => wpAny (model X.prog X.w) A2 (excMatches (.ref a) c) Q E2 s1) E1 s := by
  obtain ⟨oe3, vs3, he3, hz3, hd3⟩ := fl.there
  have LT : PySem.W.Looks (model X.prog X.w) s.heap (typeOf (.ref a)) cls := fun A Q E s k q => wpAny_typeOf_ref (k _ _ he3) (by rw [hz3.1]; exact q)
  cases T with
  | one h =>
    obtain ⟨b1, d1, x1, y1, z1⟩ := PySem.W.exmAny_cons hx
    have : some false = some d1 := y1
    cases this
    rw [Bool.or_false] at z1
    subst z1
    exact name_ok h S ((PySem.W.exm_one (M := model X.prog X.w) S.kIn LT x1).here (hq _ fl (Heap.UpToSlots.refl _)))
  | tup2 h1 h2 =>
    refine wpAny_Tuple_spliced ?_
    show wpAny _ _ (spliced [(false, eval (.Name _ _) X.env), (false, eval (.Name _ _) X.env)]) _ _ s
    refine Calls.spliced_cons (name_ok h1 S (Calls.spliced_cons (name_ok h2 S (Calls.spliced_nil ⟨by show (2 : Nat) ≤ sizeLine; decide, ?_⟩))))
    exact (PySem.W.exm_tup2 (M := model X.prog X.w) (S.kIn.keeps fun b u e => Heap.get?_push_of_some _ e) (LT.keeps fun b u e => Heap.get?_push_of_some _ e) (Heap.get?_push_size _ rfl) hx).here (hq _ (flying_push fl).1 (flying_push fl).2)
  | tup3 h1 h2 h3 =>
    refine wpAny_Tuple_spliced ?_
    show wpAny _ _ (spliced [(false, eval (.Name _ _) X.env), (false, eval (.Name _ _) X.env), (false, eval (.Name _ _) X.env)]) _ _ s
    refine Calls.spliced_cons (name_ok h1 S (Calls.spliced_cons (name_ok h2 S (Calls.spliced_cons (name_ok h3 S (Calls.spliced_nil ⟨by show (3 : Nat) ≤ sizeLine; decide, ?_⟩))))))
    exact (PySem.W.exm_tup3 (M := model X.prog X.w) (S.kIn.keeps fun b u e => Heap.get?_push_of_some _ e) (LT.keeps fun b u e => Heap.get?_push_of_some _ e) (Heap.get?_push_size _ rfl) hx).here (hq _ (flying_push fl).1 (flying_push fl).2)
end L2
set_option maxHeartbeats 4000000
namespace DL
open PySem PySem.Spec PyProof.Rows L2
end DL
namespace DL
open PySem L2 Tx20 Tx21
abbrev FBd : List Str := [(PySem.Str.ofString "reserve"), (PySem.Str.ofString "written"), (PySem.Str.ofString "teams"), (PySem.Str.ofString "wearers")]
section
variable {κ κ' α : Type} [DecidableEq κ] [DecidableEq κ']
def kvOf (e : κ → κ') (f : κ → Addr) (l : List (κ × α)) : List (κ' × D) := l.map fun x => (e x.1, .ref (f x.1))
def getA (l : List (κ × α)) (k : κ) : Option α := (l.find? fun x => decide (x.1 = k)).map (·.2)
def putA (l : List (κ × α)) (k : κ) (v : α) : List (κ × α) := if l.any (fun x => decide (x.1 = k)) then l.map (fun x => if x.1 = k then (x.1, v) else x) else l ++ [(k, v)]
def updF {β : Type} (f : κ → β) (k : κ) (a : β) : κ → β := fun x => if x = k then a else f x
@[simp] theorem updF_same {β : Type} {f : κ → β} {k : κ} {a : β} : updF f k a k = a := by simp [updF]
theorem updF_ne {β : Type} {f : κ → β} {k x : κ} {a : β} (h : x ≠ k) : updF f k a x = f x := by simp [updF, h]
theorem getA_some {l : List (κ × α)} {k : κ} {v : α} (h : getA l k = some v) : (k, v) ∈ l := by
  unfold getA at h
  obtain ⟨x, e, rfl⟩ := Option.map_eq_some_iff.mp h
  have h1 := List.find?_some e
  have h2 := List.mem_of_find?_eq_some e
  simp only [decide_eq_true_eq] at h1
  rw [← h1]; exact h2
theorem getA_mem {l : List (κ × α)} (nd : (l.map (·.1)).Nodup) {k : κ} {v : α} (h : (k, v) ∈ l) : getA l k = some v := by
  induction l with
  | nil => cases h
  | cons x l ih =>
    rw [List.map_cons, List.nodup_cons] at nd
    unfold getA
    by_cases hx : x.1 = k
    · rw [List.find?_cons_of_pos (by simpa using hx)]
      rcases List.mem_cons.mp h with h | h
      · rw [← h]; rfl
      · exact absurd (List.mem_map_of_mem (f := (·.1)) h) (by rw [hx] at nd; exact nd.1)
    · rw [List.find?_cons_of_neg (by simpa using hx)]
      rcases List.mem_cons.mp h with h | h
      · exact absurd (by rw [← h]) hx
      · exact ih nd.2 h
theorem getA_put {l : List (κ × α)} {k j : κ} {v : α} : getA (putA l k v) j = if j = k then some v else getA l j := by
  unfold putA
  split
  · next h =>
    obtain ⟨x0, m0, e0⟩ := List.any_eq_true.mp h
    simp only [decide_eq_true_eq] at e0
    clear h
    unfold getA
    induction l with
    | nil => cases m0
    | cons x l ih =>
      rw [List.map_cons]
      by_cases hx : x.1 = k
      · rw [if_pos hx]
        by_cases hj : j = k
        · subst hj; rw [if_pos rfl, List.find?_cons_of_pos (by simpa using hx)]; rfl
        · rw [if_neg hj, List.find?_cons_of_neg (by simp [hx]; exact fun e => hj e.symm), List.find?_cons_of_neg (by simp [hx]; exact fun e => hj e.symm)]
          by_cases hl : ∃ y ∈ l, y.1 = k
          · obtain ⟨y, hy, ey⟩ := hl
            clear ih
            have gen : ∀ l : List (κ × α), ((l.map fun x => if x.1 = k then (x.1, v) else x).find? fun x => decide (x.1 = j)).map (·.2) = (l.find? fun x => decide (x.1 = j)).map (·.2) := fun l => by
              induction l with
              | nil => rfl
              | cons z l ih =>
                rw [List.map_cons]
                by_cases hz : z.1 = k
                · rw [if_pos hz, List.find?_cons_of_neg (by simp [hz]; exact fun e => hj e.symm), List.find?_cons_of_neg (by simp [hz]; exact fun e => hj e.symm)]; exact ih
                · rw [if_neg hz]
                  by_cases hz2 : z.1 = j
                  · rw [List.find?_cons_of_pos (by simpa using hz2), List.find?_cons_of_pos (by simpa using hz2)]
                  · rw [List.find?_cons_of_neg (by simpa using hz2), List.find?_cons_of_neg (by simpa using hz2)]; exact ih
            exact gen l
          · have e : l.map (fun x => if x.1 = k then (x.1, v) else x) = l := by
              have : ∀ y ∈ l, (if y.1 = k then (y.1, v) else y) = y := fun y hy => if_neg fun e => hl ⟨y, hy, e⟩
              exact (List.map_congr_left this).trans (List.map_id' l)
            rw [e]
      · rw [if_neg hx]
        have m1 : x0 ∈ l := by
          rcases List.mem_cons.mp m0 with e | m
          · exact absurd (by rw [← e]; exact e0) hx
          · exact m
        by_cases hj : x.1 = j
        · rw [List.find?_cons_of_pos (by simpa using hj), if_neg (by rw [← hj]; exact hx), List.find?_cons_of_pos (by simpa using hj)]
        · rw [List.find?_cons_of_neg (by simpa using hj), List.find?_cons_of_neg (by simpa using hj)]
          exact ih m1
  · next h =>
    unfold getA
    rw [List.find?_append]
    by_cases hj : j = k
    · subst hj
      have n0 : l.find? (fun x => decide (x.1 = j)) = none := List.find?_eq_none.mpr fun x hx e => h (List.any_eq_true.mpr ⟨x, hx, e⟩)
      rw [n0, if_pos rfl]; simp
    · rw [if_neg hj]
      have : [(k, v)].find? (fun x => decide (x.1 = j)) = none := by simp; exact fun e => hj e.symm
      rw [this]; cases l.find? (fun x => decide (x.1 = j)) <;> rfl
theorem putA_keys {l : List (κ × α)} {k : κ} {v : α} : (putA l k v).map (·.1) = if k ∈ l.map (·.1) then l.map (·.1) else l.map (·.1) ++ [k] := by
  unfold putA
  split
  · next h =>
    obtain ⟨x, hx, e⟩ := List.any_eq_true.mp h
    rw [if_pos (by rw [← of_decide_eq_true e]; exact List.mem_map_of_mem hx), List.map_map]
    refine List.map_congr_left fun y _ => ?_
    show (if y.1 = k then (y.1, v) else y).1 = y.1
    split <;> rfl
  · next h =>
    rw [if_neg fun hk => ?_]
    · simp
    · obtain ⟨x, hx, e⟩ := List.mem_map.mp hk
      exact h (List.any_eq_true.mpr ⟨x, hx, by simpa using e⟩)
theorem putA_nodup {l : List (κ × α)} {k : κ} {v : α} (nd : (l.map (·.1)).Nodup) : ((putA l k v).map (·.1)).Nodup := by
  rw [putA_keys]
  split
  · exact nd
  · next h => rw [List.nodup_append]; exact ⟨nd, by simp, fun a ha b hb e => h (by rw [← List.mem_singleton.mp hb, ← e]; exact ha)⟩
theorem putA_mem {l : List (κ × α)} {k : κ} {v : α} {x : κ × α} (h : x ∈ putA l k v) : x = (k, v) ∨ x ∈ l ∧ x.1 ≠ k := by
  unfold putA at h
  split at h
  · obtain ⟨y, hy, e⟩ := List.mem_map.mp h
    by_cases hk : y.1 = k
    · rw [if_pos hk] at e; left; rw [← e, hk]
    · rw [if_neg hk] at e; right; rw [← e]; exact ⟨hy, hk⟩
  · next hn =>
    rcases List.mem_append.mp h with h | h
    · exact .inr ⟨h, fun e => hn (List.any_eq_true.mpr ⟨x, h, by simpa using e⟩)⟩
    · exact .inl (List.mem_singleton.mp h)
theorem putA_len {l : List (κ × α)} {k : κ} {v : α} : (putA l k v).length ≤ l.length + 1 := by
  unfold putA; split <;> simp
variable {e : κ → κ'} {f : κ → Addr} (he : ∀ a b, e a = e b → a = b)
include he
theorem putD_kv {l : List (κ × α)} {k : κ} {v : α} {a : Addr} : putD (kvOf e f l) (e k) (.ref a) = kvOf e (updF f k a) (putA l k v) := by
  have an : (kvOf e f l).any (fun kv => decide (kv.1 = e k)) = l.any fun x => decide (x.1 = k) := by
    unfold kvOf
    rw [List.any_map]
    have : ((fun kv : κ' × D => decide (kv.1 = e k)) ∘ fun x : κ × α => (e x.1, D.ref (f x.1))) = fun x => decide (x.1 = k) := by
      funext x
      by_cases hx : x.1 = k
      · simp [hx]
      · simp [hx]; exact fun z => hx (he _ _ z)
    rw [this]
  unfold putD putA
  rw [an]
  split
  · unfold kvOf
    rw [List.map_map, List.map_map]
    refine List.map_congr_left fun x _ => ?_
    show (if e x.1 = e k then (e x.1, D.ref a) else (e x.1, .ref (f x.1))) = (e (if x.1 = k then (x.1, v) else x).1, .ref (updF f k a (if x.1 = k then (x.1, v) else x).1))
    by_cases hx : x.1 = k
    · rw [if_pos (by rw [hx]), if_pos hx]; simp [updF, hx]
    · rw [if_neg fun z => hx (he _ _ z), if_neg hx, updF_ne hx]
  · next h =>
    unfold kvOf
    rw [List.map_append, List.map_singleton]
    have : l.map (fun x => (e x.1, D.ref (f x.1))) = l.map fun x => (e x.1, D.ref (updF f k a x.1)) := List.map_congr_left fun x hx => by
      rw [updF_ne fun z => h (List.any_eq_true.mpr ⟨x, hx, by simpa using z⟩)]
    rw [this, updF_same]
end
end DL
namespace DL
open PySem L2
end DL
set_option maxHeartbeats 2000000
namespace DL
open PySem PySem.Spec PyProof.Rows L2
section
variable {X : Cx} {C f : Addr} {fd : FuncData} {ps : List Str} {k : Nat} {sp : Sp} {P : DSp} {W : WX} {a : Expr} {ta : TE} {qa : DTE}
def qTM (C : Addr) (P : DSp) (qa : DTE) : DTT := fun DW p M Q => qa DW p M fun x M1 => (∃ ns es, insD M1 x = some (C, ns, es)) ∧ P [x] M1 (fun d M' => ∃ n, d = .int n ∧ 0 ≤ n ∧ n < 2 ^ 63 ∧ Q (n != 0) M') fun _ _ => False
end
end DL
namespace DL
open PySem PySem.Spec PyProof.Rows L2
end DL
namespace DL
open PySem PySem.Spec PyProof.Rows L2
end DL
namespace L2
open PySem PySem.Spec PyProof.Rows
end L2
namespace DL
open PySem PySem.Spec PyProof.Rows L2
end DL
namespace L2
open PySem PySem.Spec PyProof.Rows
end L2
namespace DL
open PySem PySem.Spec PyProof.Rows L2
end DL
namespace DL
open PySem L2
mutual
/-- None, numbers, texts, tuples and lists of such -/
def prm : D → Bool
  | .non => true
  | .int _ => true
  | .str _ => true
  | .tup ds => prmL ds
  | .lst ds => prmL ds
  | _ => false
def prmL : List D → Bool
  | [] => true
  | d :: ds => prm d && prmL ds
end
mutual
theorem prm_data : ∀ d : D, prm d = true → isData d = true
  | .non, _ => rfl
  | .int _, _ => rfl
  | .str _, _ => rfl
  | .tup ds, h => prmL_data ds h
  | .lst ds, h => prmL_data ds h
  | .bl _, h => by cases h
  | .ktp _, h => by cases h
  | .xtp _, h => by cases h
  | .scr _, h => by cases h
  | .ty _, h => by cases h
  | .ref _, h => by cases h
  | .dct _ _, h => by cases h
  | .ins _ _ _, h => by cases h
  | .exc _ _ _ _, h => by cases h
  | .fnv _ _ _ _ _, h => by cases h
theorem prmL_data : ∀ ds : List D, prmL ds = true → isDataL ds = true
  | [], _ => rfl
  | d :: ds, h => by
    have h' : prm d = true ∧ prmL ds = true := by simpa [prmL] using h
    simp [isDataL, prm_data d h'.1, prmL_data ds h'.2]
end
theorem prmL_all : ∀ ds : List D, prmL ds = ds.all prm
  | [] => rfl
  | d :: ds => by simp [prmL, prmL_all ds]
mutual
theorem prm_eq : ∀ d e : D, prm d = true → prm e = true → deq d e = true → d = e
  | .non, e, _, he, h => by cases e <;> first | rfl | (exfalso; revert he; simp [prm]; done) | (exfalso; revert h; simp [deq, pyd, PyData.eqv]; done)
  | .int i, e, _, he, h => by
    cases e with
    | int j => rw [deq_int] at h; rw [of_decide_eq_true h]
    | _ => first | (exfalso; revert he; simp [prm]; done) | (exfalso; revert h; simp [deq, pyd, PyData.eqv]; done)
  | .str i, e, _, he, h => by
    cases e with
    | str j => rw [deq_str] at h; rw [of_decide_eq_true h]
    | _ => first | (exfalso; revert he; simp [prm]; done) | (exfalso; revert h; simp [deq, pyd, PyData.eqv]; done)
  | .tup ds, e, hd, he, h => by
    cases e with
    | tup es => rw [prmL_eq ds es hd he (by simpa [deq, deqL, pyd, PyData.eqv] using h)]
    | _ => first | (exfalso; revert he; simp [prm]; done) | (exfalso; revert h; simp [deq, pyd, PyData.eqv]; done)
  | .lst ds, e, hd, he, h => by
    cases e with
    | lst es => rw [prmL_eq ds es hd he (by simpa [deq, deqL, pyd, PyData.eqv] using h)]
    | _ => first | (exfalso; revert he; simp [prm]; done) | (exfalso; revert h; simp [deq, pyd, PyData.eqv]; done)
  | .bl _, _, h, _, _ => by cases h
  | .ktp _, _, h, _, _ => by cases h
  | .xtp _, _, h, _, _ => by cases h
  | .scr _, _, h, _, _ => by cases h
  | .ty _, _, h, _, _ => by cases h
  | .ref _, _, h, _, _ => by cases h
  | .dct _ _, _, h, _, _ => by cases h
  | .ins _ _ _, _, h, _, _ => by cases h
  | .exc _ _ _ _, _, h, _, _ => by cases h
  | .fnv _ _ _ _ _, _, h, _, _ => by cases h
theorem prmL_eq : ∀ ds es : List D, prmL ds = true → prmL es = true → deqL ds es = true → ds = es
  | [], [], _, _, _ => rfl
  | [], e :: es, _, _, h => by simp [deqL, pydL, PyData.eqvAll] at h
  | d :: ds, [], _, _, h => by simp [deqL, pydL, PyData.eqvAll] at h
  | d :: ds, e :: es, hd, he, h => by
    have h1 : prm d = true ∧ prmL ds = true := by simpa [prmL] using hd
    have h2 : prm e = true ∧ prmL es = true := by simpa [prmL] using he
    have h3 : deq d e = true ∧ deqL ds es = true := by simpa [deq, deqL, pydL, PyData.eqvAll] using h
    rw [prm_eq d e h1.1 h2.1 h3.1, prmL_eq ds es h1.2 h2.2 h3.2]
end
theorem prm_deq {d e : D} (hd : prm d = true) (he : prm e = true) : deq d e = true ↔ d = e :=
  ⟨prm_eq d e hd he, fun h => by subst h; exact deq_refl d (prm_data d hd)⟩
theorem eq_vl {neg : Bool} {x y d e : D} {M : Mst} {Q : DK} (hx : res M x = d) (hy : res M y = e) (h1 : isData d = true) (h2 : isData e = true) (hd : dep d ≤ 64) : dEq neg x y M Q = Q (.bl (xor neg (deq d e))) M := by
  unfold dEq
  rw [hx, hy]
  have h3 : min (dep d) (dep e) ≤ 64 := Nat.le_trans (Nat.min_le_left _ _) hd
  simp [h1, h2, h3]
/-- == of plain things -/
theorem eq_prm {neg b : Bool} {x y d e : D} {M : Mst} {Q : DK} (hx : res M x = d) (hy : res M y = e) (h1 : prm d = true) (h2 : prm e = true) (hd : dep d ≤ 64) (hb : b = true ↔ d = e) : dEq neg x y M Q = Q (.bl (xor neg b)) M := by
  rw [eq_vl hx hy (prm_data d h1) (prm_data e h2) hd]
  have : deq d e = b := by
    cases b with
    | true => exact (prm_deq h1 h2).mpr (hb.mp rfl)
    | false =>
      cases z : deq d e with
      | false => rfl
      | true => exact (hb.mpr ((prm_deq h1 h2).mp z)).symm
  rw [this]
end DL
set_option maxHeartbeats 2000000
namespace DL
open PySem PySem.Spec PyProof.Rows L2
section
open AutoSeq1 (wpAny_loadPart')
open MeetsSeq MeetsSeq2 MeetsSeq3 SeqRoads2
open GQ (FinOf)
variable {prog : Program} {w : World} {A : Around} {R : Result → Shared → Prop}
/-- both lists stand, of N items each -/
def TwoL (l b : Addr) (N : Nat) (s : Shared) : Prop := ∃ (items items2 : Array Value) (n n2 : Nat), s.heap.get? l = some { cls := .type "list", data := .seq items n } ∧ s.heap.get? b = some { cls := .type "list", data := .seq items2 n2 } ∧ items.size = N ∧ items2.size = N
def ListB (prog : Program) (w : World) (A : Around) (E : Value → Shared → Prop) (l b : Addr) (N : Nat) (I : Nat → Shared → Prop) (J : Shared → Prop) : Prop :=
  ∀ i s, I i s → ∃ (items items2 : Array Value) (n n2 : Nat), s.heap.get? l = some { cls := .type "list", data := .seq items n } ∧ s.heap.get? b = some { cls := .type "list", data := .seq items2 n2 } ∧ items.size = N ∧ items2.size = N ∧
    ∀ (h1 : i < items.size) (h2 : i < items2.size), wpAny (model prog w) A.in1 (eqBool items[i] items2[i]) (fun r s' => if r = true then I (i + 1) s' else J s' ∧ TwoL l b N s') E s
def cB (neg : Bool) : Int := match neg with | true => 3 | false => 2
theorem eq_loopB (neg : Bool) (l b : Addr) (N : Nat) (I : Nat → Shared → Prop) (J : Shared → Prop) (hl : ListB prog w A (fun e s' => R (.error e) s') l b N I J)
    (fin : ∀ s, I N s → R (.ok (.ret (.bool (!neg)))) s) (fail : ∀ s, J s → R (.ok (.ret (.bool neg))) s) (k : Nat) :
    ∀ i : Nat, N - i = k → i ≤ N → ∀ s, I i s →
      wpAny (model prog w) A.in1 (Builtin.«list.__eq__.loop» ⟨[.ref l, .ref b, rawInt i, rawInt (cB neg)], []⟩) (FinOf prog w A R) (fun e s' => R (.error e) s') s := by
  induction k with
  | zero =>
    intro i hk hi s h
    obtain ⟨items, items2, n, n2, hl1, hb1, hs1, hs2, _⟩ := hl _ _ h
    have hi' : i = N := by omega
    have hR : R (.ok (.ret (.bool (!neg)))) s := fin s (hi' ▸ h)
    obtain ⟨hp, g, d, tk, os⟩ := s
    cases neg with
    | false =>
      show wpAny (model prog w) A.in1 (Builtin.«list.__eq__.loop» ⟨[.ref l, .ref b, rawInt i, rawInt 2], []⟩) _ _ _
      wp_walk using wpAny_loadPart' hl1, wpAny_loadPart' hb1
      have hi1 : items[((i : Nat) : Int).toNat]? = none := by simp; omega
      have hi2 : items2[((i : Nat) : Int).toNat]? = none := by simp; omega
      rw [hi1, hi2]
      wp_walk using wpAny_loadPart' hl1, wpAny_loadPart' hb1
      show R (.ok (.ret (.bool (items.size == items2.size)))) _
      rw [hs1, hs2]
      simpa using hR
    | true =>
      show wpAny (model prog w) A.in1 (Builtin.«list.__eq__.loop» ⟨[.ref l, .ref b, rawInt i, rawInt 3], []⟩) _ _ _
      wp_walk using wpAny_loadPart' hl1, wpAny_loadPart' hb1
      have hi1 : items[((i : Nat) : Int).toNat]? = none := by simp; omega
      have hi2 : items2[((i : Nat) : Int).toNat]? = none := by simp; omega
      rw [hi1, hi2]
      wp_walk using wpAny_loadPart' hl1, wpAny_loadPart' hb1
      show R (.ok (.ret (.bool (items.size != items2.size)))) _
      rw [hs1, hs2]
      simpa using hR
  | succ k ih =>
    intro i hk hi s h
    obtain ⟨items, items2, n, n2, hl1, hb1, hs1, hs2, turn⟩ := hl _ _ h
    have hlt : i < items.size := by omega
    have hlt2 : i < items2.size := by omega
    have ht := turn hlt hlt2
    have hi1 : items[((i : Nat) : Int).toNat]? = some items[i] := by simp [hlt]
    have hi2 : items2[((i : Nat) : Int).toNat]? = some items2[i] := by simp [hlt2]
    have hc : ((i : Int) + 1) = ((i + 1 : Nat) : Int) := by omega
    obtain ⟨hp, g, d, tk, os⟩ := s
    cases neg with
    | false =>
      show wpAny (model prog w) A.in1 (Builtin.«list.__eq__.loop» ⟨[.ref l, .ref b, rawInt i, rawInt 2], []⟩) _ _ _
      wp_walk using wpAny_loadPart' hl1, wpAny_loadPart' hb1
      rw [hi1, hi2]
      refine wpAny_bind (wpAny_mono ht (fun r s2 h2 => ?_) fun _ _ x => x)
      cases r with
      | true =>
        rw [if_pos rfl] at h2
        have hrec := ih (i + 1) (by omega) (by omega) s2 h2
        obtain ⟨hp2, g2, d2, tk2, os2⟩ := s2
        wp_walk
        rw [hc]
        exact ⟨plainId_quiet plain_eq_loop _, codeAny_builtin entry_eq_loop (by
          rw [Around.under_plainId plain_eq_loop _]
          exact hrec)⟩
      | false =>
        rw [if_neg Bool.false_ne_true] at h2
        obtain ⟨h2, xs, ys, m, m2, hx, hy, hsx, hsy⟩ := h2
        have hR := fail s2 h2
        obtain ⟨hp2, g2, d2, tk2, os2⟩ := s2
        wp_walk using wpAny_loadPart' hx, wpAny_loadPart' hy
        have j1 : xs[((i : Nat) : Int).toNat]? = some (xs[i]'(by omega)) := by simp
        have j2 : ys[((i : Nat) : Int).toNat]? = some (ys[i]'(by omega)) := by simp
        rw [j1, j2]
        wp_walk
        exact hR
    | true =>
      show wpAny (model prog w) A.in1 (Builtin.«list.__eq__.loop» ⟨[.ref l, .ref b, rawInt i, rawInt 3], []⟩) _ _ _
      wp_walk using wpAny_loadPart' hl1, wpAny_loadPart' hb1
      rw [hi1, hi2]
      refine wpAny_bind (wpAny_mono ht (fun r s2 h2 => ?_) fun _ _ x => x)
      cases r with
      | true =>
        rw [if_pos rfl] at h2
        have hrec := ih (i + 1) (by omega) (by omega) s2 h2
        obtain ⟨hp2, g2, d2, tk2, os2⟩ := s2
        wp_walk
        rw [hc]
        exact ⟨plainId_quiet plain_eq_loop _, codeAny_builtin entry_eq_loop (by
          rw [Around.under_plainId plain_eq_loop _]
          exact hrec)⟩
      | false =>
        rw [if_neg Bool.false_ne_true] at h2
        obtain ⟨h2, xs, ys, m, m2, hx, hy, hsx, hsy⟩ := h2
        have hR := fail s2 h2
        obtain ⟨hp2, g2, d2, tk2, os2⟩ := s2
        wp_walk using wpAny_loadPart' hx, wpAny_loadPart' hy
        have j1 : xs[((i : Nat) : Int).toNat]? = some (xs[i]'(by omega)) := by simp
        have j2 : ys[((i : Nat) : Int).toNat]? = some (ys[i]'(by omega)) := by simp
        rw [j1, j2]
        wp_walk
        exact hR
theorem list_eqB (l b : Addr) (N : Nat) (I : Nat → Shared → Prop) (J : Shared → Prop) (hl : ListB prog w A (fun e s' => R (.error e) s') l b N I J)
    (fin : ∀ s, I N s → R (.ok (.ret (.bool true))) s) (fail : ∀ s, J s → R (.ok (.ret (.bool false))) s) {s : Shared} (h : I 0 s) :
    wpAny (model prog w) A.in1 (Builtin.«list.__eq__» ⟨[.ref l, .ref b], []⟩) (FinOf prog w A R) (fun e s' => R (.error e) s') s := by
  obtain ⟨items, items2, n, n2, hl1, hb1, hs1, hs2, _⟩ := hl _ _ h
  have hrec := eq_loopB (A := A) (R := R) false l b N I J hl fin fail _ 0 rfl (Nat.zero_le _) s h
  obtain ⟨hp, g, d, tk, os⟩ := s
  have f3 := AutoSeq1.sub_list_list
  have hne : ¬ (items.size != items2.size) = true := by simp [hs1, hs2]
  wp_walk using wpAny_loadPart' hl1, wpAny_loadPart' hb1
  exact ⟨plainId_quiet plain_eq_loop _, codeAny_builtin entry_eq_loop (by
    rw [Around.under_plainId plain_eq_loop _]
    exact hrec)⟩
theorem list_neB (l b : Addr) (N : Nat) (I : Nat → Shared → Prop) (J : Shared → Prop) (hl : ListB prog w A (fun e s' => R (.error e) s') l b N I J)
    (fin : ∀ s, I N s → R (.ok (.ret (.bool false))) s) (fail : ∀ s, J s → R (.ok (.ret (.bool true))) s) {s : Shared} (h : I 0 s) :
    wpAny (model prog w) A.in1 (Builtin.«list.__ne__» ⟨[.ref l, .ref b], []⟩) (FinOf prog w A R) (fun e s' => R (.error e) s') s := by
  obtain ⟨items, items2, n, n2, hl1, hb1, hs1, hs2, _⟩ := hl _ _ h
  have hrec := eq_loopB (A := A) (R := R) true l b N I J hl fin fail _ 0 rfl (Nat.zero_le _) s h
  obtain ⟨hp, g, d, tk, os⟩ := s
  have f3 := AutoSeq1.sub_list_list
  have hne : ¬ (items.size != items2.size) = true := by simp [hs1, hs2]
  wp_walk using wpAny_loadPart' hl1, wpAny_loadPart' hb1
  exact ⟨plainId_quiet plain_eq_loop _, codeAny_builtin entry_eq_loop (by
    rw [Around.under_plainId plain_eq_loop _]
    exact hrec)⟩
theorem list_eqN (l b : Addr) {items items2 : Array Value} {n n2 : Nat} {s : Shared} (hl1 : s.heap.get? l = some { cls := .type "list", data := .seq items n }) (hb1 : s.heap.get? b = some { cls := .type "list", data := .seq items2 n2 }) (hs : items.size ≠ items2.size)
    (h : R (.ok (.ret (.bool false))) s) :
    wpAny (model prog w) A.in1 (Builtin.«list.__eq__» ⟨[.ref l, .ref b], []⟩) (FinOf prog w A R) (fun e s' => R (.error e) s') s := by
  obtain ⟨hp, g, d, tk, os⟩ := s
  have f3 := AutoSeq1.sub_list_list
  have hne : (items.size != items2.size) = true := by simp [hs]
  wp_walk using wpAny_loadPart' hl1, wpAny_loadPart' hb1
  exact h
theorem list_neN (l b : Addr) {items items2 : Array Value} {n n2 : Nat} {s : Shared} (hl1 : s.heap.get? l = some { cls := .type "list", data := .seq items n }) (hb1 : s.heap.get? b = some { cls := .type "list", data := .seq items2 n2 }) (hs : items.size ≠ items2.size)
    (h : R (.ok (.ret (.bool true))) s) :
    wpAny (model prog w) A.in1 (Builtin.«list.__ne__» ⟨[.ref l, .ref b], []⟩) (FinOf prog w A R) (fun e s' => R (.error e) s') s := by
  obtain ⟨hp, g, d, tk, os⟩ := s
  have f3 := AutoSeq1.sub_list_list
  have hne : (items.size != items2.size) = true := by simp [hs]
  wp_walk using wpAny_loadPart' hl1, wpAny_loadPart' hb1
  exact h
end
section
variable {prog : Program} {w : World} {A : Around} {E : Value → Shared → Prop} {s : Shared}
def opB : Bool → CmpOp | false => .Eq | true => .NotEq
theorem rc_listB (neg : Bool) {l b : Addr} {N : Nat} {Q : Value → Shared → Prop} (hu : A.units < cLine) (I : Nat → Shared → Prop) (J : Shared → Prop) (hl : ListB prog w A E l b N I J)
    (fin : ∀ s, I N s → Q (.bool (!neg)) s) (fail : ∀ s, J s → Q (.bool neg) s) (h : I 0 s) : wpAny (model prog w) A (richCompare (opB neg) (.ref l) (.ref b)) Q E s := by
  obtain ⟨items, items2, n, n2, hl1, hb1, _, _, _⟩ := hl _ _ h
  cases neg with
  | false =>
    refine wpAny_richCompare_same_room (op := .Eq) ⟨_, hl1, rfl⟩ ⟨_, hb1, rfl⟩ F.slot_list_eq (GQ.call_here F.slot_list_eq ⟨_, hl1, rfl⟩ F.entry_list_eq (F.args_list_eq_2 _ _) ?_) hu
    exact list_eqB (R := wants (fun v s' => v ≠ .notImplemented ∧ Q v s') E) l b N I J hl (fun s' q => ⟨(fun x => nomatch x), fin s' q⟩) (fun s' q => ⟨(fun x => nomatch x), fail s' q⟩) h
  | true =>
    refine wpAny_richCompare_same_room (op := .NotEq) ⟨_, hl1, rfl⟩ ⟨_, hb1, rfl⟩ F.slot_list_ne (GQ.call_here F.slot_list_ne ⟨_, hl1, rfl⟩ F.entry_list_ne (F.args_list_ne_2 _ _) ?_) hu
    exact list_neB (R := wants (fun v s' => v ≠ .notImplemented ∧ Q v s') E) l b N I J hl (fun s' q => ⟨(fun x => nomatch x), fin s' q⟩) (fun s' q => ⟨(fun x => nomatch x), fail s' q⟩) h
theorem rc_listN (neg : Bool) {l b : Addr} {items items2 : Array Value} {n n2 : Nat} {Q : Value → Shared → Prop} (hu : A.units < cLine) (hl1 : s.heap.get? l = some { cls := .type "list", data := .seq items n }) (hb1 : s.heap.get? b = some { cls := .type "list", data := .seq items2 n2 }) (hs : items.size ≠ items2.size)
    (h : Q (.bool neg) s) : wpAny (model prog w) A (richCompare (opB neg) (.ref l) (.ref b)) Q E s := by
  cases neg with
  | false =>
    refine wpAny_richCompare_same_room (op := .Eq) ⟨_, hl1, rfl⟩ ⟨_, hb1, rfl⟩ F.slot_list_eq (GQ.call_here F.slot_list_eq ⟨_, hl1, rfl⟩ F.entry_list_eq (F.args_list_eq_2 _ _) ?_) hu
    exact list_eqN (R := wants (fun v s' => v ≠ .notImplemented ∧ Q v s') E) l b hl1 hb1 hs ⟨(fun x => nomatch x), h⟩
  | true =>
    refine wpAny_richCompare_same_room (op := .NotEq) ⟨_, hl1, rfl⟩ ⟨_, hb1, rfl⟩ F.slot_list_ne (GQ.call_here F.slot_list_ne ⟨_, hl1, rfl⟩ F.entry_list_ne (F.args_list_ne_2 _ _) ?_) hu
    exact list_neN (R := wants (fun v s' => v ≠ .notImplemented ∧ Q v s') E) l b hl1 hb1 hs ⟨(fun x => nomatch x), h⟩
end
/-- two lists of N items stand -/
def TwoV (a b : Addr) (N : Nat) (H : Hp) : Prop := ∃ xs ys, H a = some (.lst xs) ∧ H b = some (.lst ys) ∧ xs.length = N ∧ ys.length = N
def eqSL (neg : Bool) (C : Addr) (sp : Sp) (a b : Addr) (N : Nat) : Nat → Nat → Hp → VK → Prop
  | 0, _, H, Q => TwoV a b N H ∧ Q (.bl (!neg)) H
  | j + 1, i, H, Q => ∃ xs ys, H a = some (.lst xs) ∧ H b = some (.lst ys) ∧ xs.length = N ∧ ys.length = N ∧ ∃ c d dx dy fs gs, xs[i]? = some (.ref c) ∧ ys[i]? = some (.ref d) ∧ H c = some (.ins C dx fs) ∧ H d = some (.ins C dy gs) ∧
    (c = d → eqSL neg C sp a b N j (i + 1) H Q) ∧
    (c ≠ d → sp [.ref c, .ref d] H (fun z H' => ∃ t, z = .bl t ∧ (t = true → eqSL neg C sp a b N j (i + 1) H' Q) ∧ (t = false → TwoV a b N H' ∧ Q (.bl neg) H')) fun _ _ _ => False)
def rEqL (neg : Bool) (C : Addr) (sp : Sp) : R2 := fun x y H Q => ∃ a b xs ys, x = .ref a ∧ y = .ref b ∧ H a = some (.lst xs) ∧ H b = some (.lst ys) ∧ (xs.length ≠ ys.length → Q (.bl neg) H) ∧ (xs.length = ys.length → eqSL neg C sp a b xs.length xs.length 0 H Q)
section
variable {X : Cx} {C f : Addr} {fd : FuncData} {ps : List Str} {k : Nat} {sp : Sp}
theorem eqSL_two {neg : Bool} {C : Addr} {sp : Sp} {a b : Addr} {N : Nat} : ∀ {j i : Nat} {H : Hp} {Q : VK}, eqSL neg C sp a b N j i H Q → TwoV a b N H
  | 0, _, _, _, h => h.1
  | _ + 1, _, _, _, ⟨xs, ys, h1, h2, h3, h4, _⟩ => ⟨xs, ys, h1, h2, h3, h4⟩
theorem op_eqL (neg : Bool) (F : FnOk X.prog X.w X.K X.mg X.base (L2.CX X.prog X.w) k f fd ps sp) (hm : Meth X.K C "__eq__" f) (hb : L2.Binds X.K fd ps []) (hr : Room (k + 1) X.A) : OpR X (richCompare (opB neg)) (rEqL neg C sp) := by
  intro pins s σ H x y v u Q I rx ry h
  obtain ⟨a, b, xs, ys, rfl, rfl, ha, hb', hne, heq⟩ := h
  cases rx
  cases ry
  obtain ⟨z, its, n, r, e⟩ := I.hok a _ ha
  obtain ⟨z2, its2, n2, r2, e2⟩ := I.hok b _ hb'
  by_cases hlen : xs.length = ys.length
  · refine rc_listB neg (N := xs.length) hr.units0 (fun i s' => ∃ H', Inv X pins σ H' s' ∧ i ≤ xs.length ∧ eqSL neg C sp a b xs.length (xs.length - i) i H' Q) (fun s' => ∃ H', Inv X pins σ H' s' ∧ Q (.bl neg) H') (fun i s' q => ?_) (fun s' q => ?_) (fun s' q => ?_) ⟨H, I, Nat.zero_le _, by simpa using heq hlen⟩
    · obtain ⟨H1, I1, hi, q1⟩ := q
      obtain ⟨vs, us, ha1, hb1, l1, l2⟩ := eqSL_two q1
      obtain ⟨_, jts, m, r, e⟩ := I1.hok a _ ha1
      obtain ⟨_, jts2, m2, r2, e2⟩ := I1.hok b _ hb1
      refine ⟨jts.toArray, jts2.toArray, m, m2, e, e2, by rw [List.size_toArray, ← r.length, l1], by rw [List.size_toArray, ← r2.length, l2], fun h1 h2 => ?_⟩
      have i1 : i < xs.length := by rw [← l1, r.length]; simpa using h1
      rw [show xs.length - i = (xs.length - (i + 1)) + 1 by omega] at q1
      obtain ⟨vs', us', ha2, hb2, _, _, c, d, dx, dy, fs, gs, ev, eu, hc, hd, q2, q3⟩ := q1
      rw [ha1] at ha2
      rw [hb1] at hb2
      cases ha2
      cases hb2
      obtain ⟨uu, hu, ru⟩ := r.get ev
      obtain ⟨ww, hw, rw'⟩ := r2.get eu
      cases ru
      cases rw'
      have g1 : jts.toArray[i] = Value.ref c := by
        have h1' : i < jts.length := by simpa using h1
        rw [List.getElem?_eq_getElem h1'] at hu
        simpa using hu
      have g2 : jts2.toArray[i] = Value.ref d := by
        have h2' : i < jts2.length := by simpa using h2
        rw [List.getElem?_eq_getElem h2'] at hw
        simpa using hw
      rw [g1, g2]
      by_cases hca : c = d
      · subst hca
        unfold eqBool
        refine wpAny_holding ?_
        refine wpAny_ite_split (fun _ => ?_) (fun hn => absurd (by simp) hn)
        refine wpAny_bind (wpAny_rule (wpAny_pure ?_))
        rw [if_pos rfl]
        exact ⟨H1, I1, i1, q2 rfl⟩
      · obtain ⟨mA, J, _⟩ := ins_get I1.hok hc
        obtain ⟨mB, J', _⟩ := ins_get I1.hok hd
        obtain ⟨od, J, _⟩ := J.look
        obtain ⟨od', J', _⟩ := J'.look
        obtain ⟨mm, hF⟩ := I1.fr
        have hr1 : Room k X.A.in1 := hr.in1
        refine GQ.eqBool_refG hca ?_
        refine PySem.W.cmp_K (op := .Eq) (tb := .ref C) hr1.units0 hF I1.ok.mod.kin J J'.type (by simp [PySem.W.notFirst]) hm.at_ hm.fn ?_
        refine wpAny_mono (run_own2 (A := X.A.in1) F hb hr1 rfl I1 (y := .ref d) (u := .ref d) rfl (q3 hca)) (fun z s2 e2 => ?_) fun _ _ e => e
        obtain ⟨wv, H', I', rv, t, rfl, t1, t2⟩ := e2
        cases rv
        refine ⟨t, rfl, ?_⟩
        cases t with
        | true => rw [if_pos rfl]; exact ⟨H', I', i1, t1 rfl⟩
        | false =>
          rw [if_neg Bool.false_ne_true]
          obtain ⟨⟨vs2, us2, ha2, hb2, l3, l4⟩, q4⟩ := t2 rfl
          obtain ⟨_, kts, p, r3, e3⟩ := I'.hok a _ ha2
          obtain ⟨_, kts2, p2, r4, e4⟩ := I'.hok b _ hb2
          exact ⟨⟨H', I', q4⟩, kts.toArray, kts2.toArray, p, p2, e3, e4, by rw [List.size_toArray, ← r3.length, l3], by rw [List.size_toArray, ← r4.length, l4]⟩
    · obtain ⟨H1, I1, _, q1⟩ := q
      rw [Nat.sub_self] at q1
      exact ⟨.bl (!neg), H1, I1, rfl, q1.2⟩
    · obtain ⟨H1, I1, q1⟩ := q
      exact ⟨.bl neg, H1, I1, rfl, q1⟩
  · exact rc_listN neg hr.units0 e e2 (by rw [List.size_toArray, List.size_toArray, ← r.length, ← r2.length]; exact hlen) ⟨.bl neg, H, I, rfl, hne hlen⟩
end
/-- the memory still holds what the lists at x, y held; from item i on -/
def eqLD (neg : Bool) (C : Addr) (P : DSp) (x y : D) (xs ys : List D) : List D → List D → Mst → DK → Prop
  | [], [], M, Q => res M x = .lst xs ∧ res M y = .lst ys ∧ Q (.bl (!neg)) M
  | v :: vs, u :: us, M, Q => res M x = .lst xs ∧ res M y = .lst ys ∧ (∃ ns es, v = .ins C ns es) ∧ (∃ ns es, u = .ins C ns es) ∧ (sameC v u → eqLD neg C P x y xs ys vs us M Q) ∧
    P [v, u] M (fun z M' => ∃ t, z = .bl t ∧ (t = true → eqLD neg C P x y xs ys vs us M' Q) ∧ (t = false → res M' x = .lst xs ∧ res M' y = .lst ys ∧ Q (.bl neg) M')) fun _ _ => False
  | _, _, _, _ => False
def dEqO (neg : Bool) (C : Addr) (P : DSp) : DOp := fun x y M Q => ∃ xs ys, res M x = .lst xs ∧ res M y = .lst ys ∧ (xs.length ≠ ys.length → Q (.bl neg) M) ∧ (xs.length = ys.length → eqLD neg C P x y xs ys xs ys M Q)
theorem ref_eqO {K : PySem.W.Frag} {neg : Bool} {C : Addr} {P : DSp} : RefR2 K (rEqL neg C (toSp K P)) (dEqO neg C P) := fun G H p M s x y v u Q Q' S r1 r2 ⟨xs, ys, e1, e2, hne, heq⟩ k => by
  obtain ⟨a, vs, rfl, g1, l1, _⟩ := as_lst S r1 e1
  obtain ⟨b, us, rfl, g2, l2, _⟩ := as_lst S r2 e2
  refine ⟨a, b, vs, us, rfl, rfl, g1, g2, fun h => k G H M (.bl neg) _ (Same.refl _) S rfl (hne (by rw [← l1.length, ← l2.length]; exact h)), fun h => ?_⟩
  have hlen : xs.length = ys.length := by rw [← l1.length, ← l2.length]; exact h
  have two : ∀ {G1 H1 M1}, Same G G1 → Sim K G1 H1 p M1 s → res M1 x = .lst xs → res M1 y = .lst ys → ∃ vs us, H1 a = some (.lst vs) ∧ H1 b = some (.lst us) ∧ RepL K G1 xs vs ∧ RepL K G1 ys us := fun {G1 H1 M1} e S1 f1 f2 => by
    obtain ⟨a', vs, ea, g1, l1, _⟩ := as_lst S1 (Rep.mono e _ _ r1) f1
    obtain ⟨b', us, eb, g2, l2, _⟩ := as_lst S1 (Rep.mono e _ _ r2) f2
    cases ea
    cases eb
    exact ⟨vs, us, g1, g2, l1, l2⟩
  have hN : vs.length = xs.length := l1.length
  rw [hN]
  have main : ∀ (j i : Nat) (G1 H1 : Hp) (M1 : Mst), i + j = xs.length → Same G G1 → Sim K G1 H1 p M1 s → eqLD neg C P x y xs ys (xs.drop i) (ys.drop i) M1 Q → eqSL neg C (toSp K P) a b xs.length j i H1 Q' := by
    intro j
    induction j with
    | zero =>
      intro i G1 H1 M1 hi e S1 q
      have : i = xs.length := by omega
      subst this
      rw [List.drop_length, hlen, List.drop_length] at q
      obtain ⟨f1, f2, q⟩ := q
      obtain ⟨vs, us, g1, g2, l1, l2⟩ := two e S1 f1 f2
      exact ⟨⟨vs, us, g1, g2, l1.length, by rw [l2.length, hlen]⟩, k G1 H1 M1 (.bl (!neg)) _ e S1 rfl q⟩
    | succ j ih =>
      intro i G1 H1 M1 hi e S1 q
      have i1 : i < xs.length := by omega
      have i2 : i < ys.length := by omega
      rw [List.drop_eq_getElem_cons i1, List.drop_eq_getElem_cons i2] at q
      obtain ⟨f1, f2, ⟨ns, es, ev⟩, ⟨ns', es', eu⟩, q1, q2⟩ := q
      obtain ⟨vs, us, g1, g2, l1, l2⟩ := two e S1 f1 f2
      obtain ⟨v, hv, rv⟩ := l1.get (List.getElem?_eq_getElem i1)
      obtain ⟨u, hu, ru⟩ := l2.get (List.getElem?_eq_getElem i2)
      have rv' := rv
      have ru' := ru
      rw [ev] at rv
      rw [eu] at ru
      obtain ⟨c, dx, fs, rfl, gc, _, _⟩ := rv
      obtain ⟨d, dy, gs, rfl, gd, _, _⟩ := ru
      refine ⟨vs, us, g1, g2, l1.length, by rw [l2.length, hlen], c, d, dx, dy, fs, gs, hv, hu, S1.same _ _ gc, S1.same _ _ gd, fun hca => ?_, fun hca => ?_⟩
      · subst hca
        exact ih (i + 1) G1 H1 M1 (by omega) e S1 (q1 ⟨K, G1, _, rv', ru'⟩)
      · refine ⟨G1, _, M1, _, _, S1.same, RepL.cons rv' (RepL.cons ru' RepL.nil), S1.mem, q2, fun G' H' v d M' e1 e2 r hm ⟨t, ed, t1, t2⟩ => ?_, fun _ _ _ _ _ _ _ _ _ _ z => z⟩
        subst ed
        cases r
        have S2 := S1.back e1 e2 hm
        refine ⟨t, rfl, fun ht => ih (i + 1) G' H' M' (by omega) (e.trans e1) S2 (t1 ht), fun ht => ?_⟩
        obtain ⟨f1, f2, q⟩ := t2 ht
        obtain ⟨vs, us, g1, g2, l1, l2⟩ := two (e.trans e1) S2 f1 f2
        exact ⟨⟨vs, us, g1, g2, l1.length, by rw [l2.length, hlen]⟩, k G' H' M' (.bl neg) _ (e.trans e1) S2 rfl q⟩
  exact main xs.length 0 G H M (by omega) (Same.refl _) S (by simpa using heq hlen)
theorem o_neO {X : Cx} {C f : Addr} {fd : FuncData} {ps : List Str} {k : Nat} {P : DSp} (F : FnOk X.prog X.w X.K X.mg X.base (L2.CX X.prog X.w) k f fd ps (toSp X.K P)) (hm : Meth X.K C "__eq__" f) (hb : L2.Binds X.K fd ps []) (hr : Room (k + 1) X.A) :
    QOp X (compareOp .NotEq) (rEqL true C (toSp X.K P)) (dEqO true C P) := ⟨op_eqL true F hm hb hr, ref_eqO⟩
section
variable {X : Cx} {C f : Addr} {fd : FuncData} {ps : List Str} {k : Nat} {sp : Sp} {P : DSp}
theorem call_strO (F : FnOk X.prog X.w X.K X.mg X.base (L2.CX X.prog X.w) k f fd ps sp) (hm : Meth X.K C "__str__" f) (hb : L2.Binds X.K fd ps []) (hr : Room (k + 2) X.A) : CallR X (.type "str") (rOwn1 C fitStr sp) := by
  intro pins s σ H xs us Q I rx h
  obtain ⟨a, dx, fs, rfl, ha, hq⟩ := h
  obtain ⟨u, rfl, r1⟩ : ∃ u, us = [u] ∧ RelV (.ref a) u := by
    cases rx with
    | cons h1 h2 => cases h2; exact ⟨_, rfl, h1⟩
  cases r1
  obtain ⟨mA, J, _⟩ := ins_get I.hok ha
  obtain ⟨od, J, _⟩ := J.look
  have hr1 : Room k X.A.in1.in1 := hr.in1.in1
  refine PySem.W.kso_call hr1.units0 I.kIn J hm.at_ hm.fn (wpAny_mono (run_own1 (A := X.A.in1.in1) F hb hr1 rfl I hq) (fun v s' z => ?_) fun _ _ e => e)
  obtain ⟨w, H', I', rv, fit, q⟩ := z
  cases w <;> first | exact fit.elim | skip
  next n =>
    obtain ⟨t, rfl⟩ := rv
    exact ⟨.str n, H', I', ⟨_, rfl⟩, q⟩
theorem c_strO (F : FnOk X.prog X.w X.K X.mg X.base (L2.CX X.prog X.w) k f fd ps (toSp X.K P)) (hm : Meth X.K C "__str__" f) (hb : L2.Binds X.K fd ps []) (hr : Room (k + 2) X.A) : QCa X (.type "str") (rOwn1 C fitStr (toSp X.K P)) (dOwn1 C fitStrD P) :=
  ⟨call_strO F hm hb hr, ref_own1 fun G d v h r => by
    cases d <;> first | exact h.elim | skip
    obtain ⟨rfl, _⟩ := r; exact trivial⟩
end
def inSR (C : Addr) (sp : Sp) (a b : Addr) (N : Nat) : Nat → Nat → Hp → VK → Prop
  | 0, _, H, Q => (∃ vs, H b = some (.lst vs) ∧ vs.length = N) ∧ Q (.bl false) H
  | j + 1, i, H, Q => ∃ vs, H b = some (.lst vs) ∧ vs.length = N ∧ ∃ c dx dy fs gs, vs[i]? = some (.ref c) ∧ H c = some (.ins C dx fs) ∧ H a = some (.ins C dy gs) ∧ (c = a → Q (.bl true) H) ∧
    (c ≠ a → sp [.ref c, .ref a] H (fun z H' => ∃ t, z = .bl t ∧ (t = true → Q (.bl true) H') ∧ (t = false → inSR C sp a b N j (i + 1) H' Q)) fun _ _ _ => False)
def rInOR (C : Addr) (sp : Sp) : R2 := fun x y H Q => ∃ a b vs, x = .ref a ∧ y = .ref b ∧ H b = some (.lst vs) ∧ inSR C sp a b vs.length vs.length 0 H Q
theorem inSR_lst {C : Addr} {sp : Sp} {a b : Addr} {N : Nat} : ∀ {j i : Nat} {H : Hp} {Q : VK}, inSR C sp a b N j i H Q → ∃ vs, H b = some (.lst vs) ∧ vs.length = N
  | 0, _, _, _, h => h.1
  | _ + 1, _, _, _, ⟨vs, h1, h2, _⟩ => ⟨vs, h1, h2⟩
section
variable {X : Cx} {C f : Addr} {fd : FuncData} {ps : List Str} {k : Nat} {sp : Sp} {P : DSp}
theorem op_inOR (F : FnOk X.prog X.w X.K X.mg X.base (L2.CX X.prog X.w) k f fd ps sp) (hm : Meth X.K C "__eq__" f) (hb : L2.Binds X.K fd ps []) (hr : Room (k + 1) X.A) : OpR X (compareOp .In) (rInOR C sp) := by
  intro pins s σ H x y v u Q I rx ry h
  obtain ⟨a, b, vs, rfl, rfl, hbv, hq⟩ := h
  cases rx
  cases ry
  refine in_listG b (.ref a) vs.length (fun i s' => ∃ H', Inv X pins σ H' s' ∧ i ≤ vs.length ∧ inSR C sp a b vs.length (vs.length - i) i H' Q) (fun i s' z => ?_) (fun s' z => ?_) ⟨H, I, Nat.zero_le _, by simpa using hq⟩
  · obtain ⟨H1, I1, hi0, q1⟩ := z
    obtain ⟨ws, hbl, lw⟩ := inSR_lst q1
    obtain ⟨_, its, n, r, e⟩ := I1.hok b _ hbl
    refine ⟨its.toArray, n, e, by rw [List.size_toArray, ← r.length, lw], fun hi => ?_⟩
    have i1 : i < vs.length := by rw [← lw, r.length]; simpa using hi
    rw [show vs.length - i = (vs.length - (i + 1)) + 1 by omega] at q1
    obtain ⟨ws', hbl', _, c, dx, dy, fs, gs, ev, hc, ha, q2, q3⟩ := q1
    rw [hbl] at hbl'
    cases hbl'
    obtain ⟨uu, hu, ru⟩ := r.get ev
    cases ru
    have g1 : its.toArray[i] = Value.ref c := by
      have h1' : i < its.length := by simpa using hi
      rw [List.getElem?_eq_getElem h1'] at hu
      simpa using hu
    rw [g1]
    by_cases hca : c = a
    · subst hca
      unfold eqBool
      refine wpAny_holding ?_
      refine wpAny_ite_split (fun _ => ?_) (fun hn => absurd (by simp) hn)
      refine wpAny_bind (wpAny_rule (wpAny_pure ?_))
      rw [if_pos rfl]
      exact ⟨.bl true, H1, I1, rfl, q2 rfl⟩
    · obtain ⟨mA, J, _⟩ := ins_get I1.hok hc
      obtain ⟨mB, J', _⟩ := ins_get I1.hok ha
      obtain ⟨od, J, _⟩ := J.look
      obtain ⟨od', J', _⟩ := J'.look
      obtain ⟨m, hF⟩ := I1.fr
      have hr1 : Room k X.A.in1 := hr.in1
      refine GQ.eqBool_refG hca ?_
      refine PySem.W.cmp_K (op := .Eq) (tb := .ref C) hr1.units0 hF I1.ok.mod.kin J J'.type (by simp [PySem.W.notFirst]) hm.at_ hm.fn ?_
      refine wpAny_mono (run_own2 (A := X.A.in1) F hb hr1 rfl I1 (y := .ref a) (u := .ref a) rfl (q3 hca)) (fun z s2 e2 => ?_) fun _ _ e => e
      obtain ⟨wv, H', I', rv, t, rfl, t1, t2⟩ := e2
      cases rv
      refine ⟨t, rfl, ?_⟩
      cases t with
      | true => rw [if_pos rfl]; exact ⟨.bl true, H', I', rfl, t1 rfl⟩
      | false => rw [if_neg Bool.false_ne_true]; exact ⟨H', I', i1, t2 rfl⟩
  · obtain ⟨H1, I1, _, q1⟩ := z
    rw [Nat.sub_self] at q1
    exact ⟨.bl false, H1, I1, rfl, q1.2⟩
end
def inDR (C : Addr) (P : DSp) (x y : D) (all : List D) : List D → Mst → DK → Prop
  | [], M, Q => res M y = .lst all ∧ Q (.bl false) M
  | d :: r, M, Q => res M y = .lst all ∧ (∃ ns es, d = .ins C ns es) ∧ (sameC d x → Q (.bl true) M) ∧ P [d, x] M (fun z M' => ∃ t, z = .bl t ∧ (t = true → Q (.bl true) M') ∧ (t = false → inDR C P x y all r M' Q)) fun _ _ => False
/-- x in y: x frozen, y any list of frozen ones -/
def dInOR (C : Addr) (P : DSp) : DOp := fun x y M Q => (∃ ns es, x = .ins C ns es) ∧ ∃ ds, res M y = .lst ds ∧ inDR C P x y ds ds M Q
theorem ref_inOR {K : PySem.W.Frag} {C : Addr} {P : DSp} : RefR2 K (rInOR C (toSp K P)) (dInOR C P) := fun G H p M s x y v u Q Q' S r1 r2 ⟨⟨ns, es, e1⟩, ds, e2, h⟩ k => by
  subst e1
  obtain ⟨b, vs, rfl, g2, l2, _⟩ := as_lst S r2 e2
  have r1' := r1
  obtain ⟨a, dx, fs, rfl, g1, h11, h12⟩ := r1
  refine ⟨a, b, vs, rfl, rfl, g2, ?_⟩
  have hN : vs.length = ds.length := l2.length
  rw [hN]
  have one : ∀ {G1 H1 M1}, Same G G1 → Sim K G1 H1 p M1 s → res M1 y = .lst ds → ∃ vs, H1 b = some (.lst vs) ∧ RepL K G1 ds vs := fun {G1 H1 M1} e S1 f => by
    obtain ⟨b', vs, eb, g1, l1, _⟩ := as_lst S1 (Rep.mono e _ _ r2) f
    cases eb
    exact ⟨vs, g1, l1⟩
  have main : ∀ (j i : Nat) (G1 H1 : Hp) (M1 : Mst), i + j = ds.length → Same G G1 → Sim K G1 H1 p M1 s → inDR C P (.ins C ns es) y ds (ds.drop i) M1 Q → inSR C (toSp K P) a b ds.length j i H1 Q' := by
    intro j
    induction j with
    | zero =>
      intro i G1 H1 M1 hi e S1 q
      have : i = ds.length := by omega
      subst this
      rw [List.drop_length] at q
      obtain ⟨vs, g1, l1⟩ := one e S1 q.1
      exact ⟨⟨vs, g1, l1.length⟩, k G1 H1 M1 (.bl false) _ e S1 rfl q.2⟩
    | succ j ih =>
      intro i G1 H1 M1 hi e S1 q
      have i1 : i < ds.length := by omega
      rw [List.drop_eq_getElem_cons i1] at q
      obtain ⟨f1, ⟨ns', es', ev⟩, q1, q2⟩ := q
      obtain ⟨vs, gb, l1⟩ := one e S1 f1
      obtain ⟨v, hv, rv⟩ := l1.get (List.getElem?_eq_getElem i1)
      have rx : Rep K G1 (.ins C ns es) (.ref a) := Rep.mono e _ _ r1'
      have rv' := rv
      rw [ev] at rv
      obtain ⟨c, dy, gs, rfl, gc, _, _⟩ := rv
      refine ⟨vs, gb, l1.length, c, dy, dx, gs, fs, hv, S1.same _ _ gc, S1.same _ _ (e _ _ g1), fun hca => ?_, fun hca => ?_⟩
      · subst hca
        exact k G1 H1 M1 (.bl true) _ e S1 rfl (q1 ⟨K, G1, _, rv', rx⟩)
      · refine ⟨G1, _, M1, _, _, S1.same, RepL.cons rv' (RepL.cons rx RepL.nil), S1.mem, q2, fun G' H' v d M' e1 e2 r hm ⟨t, ed, t1, t2⟩ => ?_, fun _ _ _ _ _ _ _ _ _ _ z => z⟩
        subst ed
        cases r
        have S2 := S1.back e1 e2 hm
        exact ⟨t, rfl, fun ht => k G' H' M' (.bl true) _ (e.trans e1) S2 rfl (t1 ht), fun ht => ih (i + 1) G' H' M' (by omega) (e.trans e1) S2 (t2 ht)⟩
  exact main ds.length 0 G H M (by omega) (Same.refl _) S (by simpa using h)
theorem o_inOR {X : Cx} {C f : Addr} {fd : FuncData} {ps : List Str} {k : Nat} {P : DSp} (F : FnOk X.prog X.w X.K X.mg X.base (L2.CX X.prog X.w) k f fd ps (toSp X.K P)) (hm : Meth X.K C "__eq__" f) (hb : L2.Binds X.K fd ps []) (hr : Room (k + 1) X.A) :
    QOp X (compareOp .In) (rInOR C (toSp X.K P)) (dInOR C P) := ⟨op_inOR F hm hb hr, ref_inOR⟩
end DL
namespace DL
open PySem L2
def dDivmod : DCa := fun ds M Q => match ds with
  | [.int i, .int j] => CDiv i j ∧ Q (.tup [.int (i / j), .int (i % j)]) M
  | _ => False
theorem c_divmod {X : Cx} : QCa X (.builtin "divmod") (fun xs H Q => ∃ i j, xs = [.int i, .int j] ∧ CDiv i j ∧ ∀ p, H p = none → Q (.ref p) (upd H p (.tup [.int (i / j), .int (i % j)]))) dDivmod := ⟨call_divmod, fun G H p M s ds vs Q Q' S r h k => by
  unfold dDivmod at h
  split at h
  · next i j =>
    obtain ⟨u, w, rfl, r1, r2⟩ := repL2 r
    cases r1
    cases r2
    exact ⟨i, j, rfl, h.1, fun q hn => newT_ok S hn (ds := [.int (i / j), .int (i % j)]) (RepL.cons rfl (RepL.cons rfl RepL.nil)) (by rw [sizeLine_eq]; exact Nat.le_of_ble_eq_true rfl) h.2 k⟩
  · exact h.elim⟩
def mZfill : DMt := fun x ds M Q => match res M x, ds with
  | .str z, [.int i] => PadOk i = true ∧ okS (Txt.zfill z i) ∧ Q (.str (Txt.zfill z i)) M
  | _, _ => False
theorem m_zfill {X : Cx} : QMt X "str.zfill" (fun x xs H Q => ∃ (a : Str) (i : Int), x = .str a ∧ xs = [.int i] ∧ PadOk i = true ∧ Q (.str (Txt.zfill a i)) H) mZfill := ⟨mt_zfill, fun G H p M s x v ds vs Q Q' S r1 r2 h k => by
  unfold mZfill at h
  split at h
  · next z i e =>
    obtain ⟨rfl, _, _⟩ := as_str r1 e
    obtain ⟨u, rfl, r3⟩ := repL1 r2
    cases r3
    exact ⟨z, i, rfl, rfl, h.1, k G H M _ _ (Same.refl _) S (okS_rep h.2.1) h.2.2⟩
  · exact h.elim⟩
end DL
namespace DL
open PySem L2 Tx20 Tx21
structure Wr where
  name : Str
  bar : Int
  size : Int
  since : Int
  dead : Bool
  lost : Bool
  inn : Bool
structure Tm where
  door : Str
  names : List Str
  tasks : List (Int × Str)
structure Bd where
  res : Int
  rows : List (Str × Int × List D)
  teams : List (Str × Tm)
  wears : List ((Str × Str) × Wr)
structure Bp where
  w : Addr
  t : Addr
  r : Addr
  ta : Str → Addr
  tb : Str → Addr
  wa : Str × Str → Addr
def rowD (x : Str × Int × List D) : D := .tup (.str x.1 :: .int x.2.1 :: x.2.2)
def taskD (x : Int × Str) : D := .tup [.int x.1, .str x.2]
abbrev tmF (x : Tm) (a : Addr) : List (Str × D) := [(PySem.Str.ofString "door", .str x.door), (PySem.Str.ofString "names", .lst (x.names.map .str)), (PySem.Str.ofString "tasks", .ref a)]
abbrev wrF (x : Wr) : List (Str × D) := [(PySem.Str.ofString "name", .str x.name), (PySem.Str.ofString "bar", .int x.bar), (PySem.Str.ofString "size", .int x.size), (PySem.Str.ofString "since", .int x.since), (PySem.Str.ofString "is_dead", .bl x.dead), (PySem.Str.ofString "is_lost", .bl x.lost), (PySem.Str.ofString "is_in", .bl x.inn)]
abbrev bdF (B : Bd) (q : Bp) : List (Str × D) := [(PySem.Str.ofString "reserve", .int B.res), (PySem.Str.ofString "written", .ref q.w), (PySem.Str.ofString "teams", .ref q.t), (PySem.Str.ofString "wearers", .ref q.r)]
def eT : Str → Key := Sum.inr
def eW (k : Str × Str) : List Key := [Sum.inr k.1, Sum.inr k.2]
theorem eT_inj (a b : Str) (h : eT a = eT b) : a = b := Sum.inr.inj h
structure IsB (cB cT cW : Addr) (M : Mst) (b : Addr) (q : Bp) (B : Bd) : Prop where
  ob : M b = some (.ins cB (bdF B q))
  rw : M q.w = some (.lst (B.rows.map rowD))
  te : M q.t = some (.dK (kvOf eT q.ta B.teams))
  we : M q.r = some (.dT (kvOf eW q.wa B.wears))
  tm : ∀ x ∈ B.teams, M (q.ta x.1) = some (.ins cT (tmF x.2 (q.tb x.1)))
  tk : ∀ x ∈ B.teams, M (q.tb x.1) = some (.lst (x.2.tasks.map taskD))
  wr : ∀ x ∈ B.wears, M (q.wa x.1) = some (.ins cW (wrF x.2))
  nt : (B.teams.map (·.1)).Nodup
  nw : (B.wears.map (·.1)).Nodup
  it : ∀ x ∈ B.teams, ∀ y ∈ B.teams, q.tb x.1 = q.tb y.1 → x.1 = y.1
  iw : ∀ x ∈ B.wears, ∀ y ∈ B.wears, q.wa x.1 = q.wa y.1 → x.1 = y.1
  dt : ∀ x ∈ B.teams, q.tb x.1 ≠ q.w
  da : ∀ x ∈ B.rows, x.2.2.all isData = true
/-- all that a board holds stands as it did -/
theorem IsB.up {cB cT cW : Addr} {M M' : Mst} {b : Addr} {q : Bp} {B : Bd} (h : IsB cB cT cW M b q B) (s : Sub M M') : IsB cB cT cW M' b q B :=
  { h with ob := s _ _ h.ob, rw := s _ _ h.rw, te := s _ _ h.te, we := s _ _ h.we, tm := fun x hx => s _ _ (h.tm x hx), tk := fun x hx => s _ _ (h.tk x hx), wr := fun x hx => s _ _ (h.wr x hx) }
theorem Sub.fresh {M : Mst} {a : Addr} {o : MO} (h : M a = none) : Sub M (DL.put M a o) := (Sub.refl M).put h
def Bd.inOf (B : Bd) (t n : Str) : Bool := match getA B.wears (t, n) with | some w => w.inn | none => false
def Bd.namesIn (B : Bd) (t : Str) : List Str := match getA B.teams t with | some x => x.names.filter (B.inOf t) | none => []
theorem names_get {B : Bd} {t n : Str} (h : n ∈ B.namesIn t) : ∃ x, getA B.teams t = some x ∧ n ∈ x.names ∧ B.inOf t n = true := by
  unfold Bd.namesIn at h
  split at h
  · next x e => rw [List.mem_filter] at h; exact ⟨x, e, h.1, h.2⟩
  · cases h
def okWork (z : Str) : Prop := z = lit "rest" ∨ z = lit "work" ∨ z = lit "hard"
def Tm.upTo (x : Tm) (m : Int) : List Str := (x.tasks.filter fun y => decide (y.1 ≤ m)).map (·.2)
def Tm.ok (x : Tm) (m : Int) : Prop := x.tasks.length ≤ 90000 ∧ (∀ y ∈ x.tasks, okWork y.2) ∧ x.upTo m ≠ []
end DL
namespace DL
open PySem L2 Tx20 Tx21
def Bd.lastOk (B : Bd) (m : Int) : Prop := ∀ x, B.rows.getLast? = some x → x.2.1 ≤ m
end DL
namespace DL
open PySem L2 Tx20 Tx21
section
variable {cB cT cW : Addr} {M : Mst} {b : Addr} {q : Bp} {B : Bd}
theorem put_keys {κ α : Type} [DecidableEq κ] {l : List (κ × α)} {k : κ} {v u : α} (h : getA l k = some u) : (putA l k v).map (·.1) = l.map (·.1) := by
  rw [putA_keys, if_pos (List.mem_map.mpr ⟨(k, u), getA_some h, rfl⟩)]
end
end DL
namespace DL
open PySem L2 Tx20 Tx21
/-- what is no part of the board stands as it did -/
def Keep (q : Bp) (B : Bd) (M M' : Mst) : Prop := ∀ a o, M a = some o → a ≠ q.w → a ≠ q.t → a ≠ q.r → (∀ x ∈ B.teams, a ≠ q.tb x.1) → (∀ x ∈ B.wears, a ≠ q.wa x.1) → M' a = some o
theorem Keep.bag {cB cT cW : Addr} {M M' : Mst} {b : Addr} {q : Bp} {B : Bd} (k : Keep q B M M') (h : IsB cB cT cW M b q B) {a : Addr} (e : M a = some .bag) : M' a = some .bag :=
  k a _ e (fun z => by rw [z, h.rw] at e; cases e) (fun z => by rw [z, h.te] at e; cases e) (fun z => by rw [z, h.we] at e; cases e) (fun x hx z => by rw [z, h.tk x hx] at e; cases e) fun x hx z => by rw [z, h.wr x hx] at e; cases e
theorem Keep.dict {cB cT cW : Addr} {M M' : Mst} {b : Addr} {q : Bp} {B : Bd} (k : Keep q B M M') (h : IsB cB cT cW M b q B) {a : Addr} {kvs : List (Key × D)} (e : M a = some (.dK kvs)) (n : a ≠ q.t) : M' a = some (.dK kvs) :=
  k a _ e (fun z => by rw [z, h.rw] at e; cases e) n (fun z => by rw [z, h.we] at e; cases e) (fun x hx z => by rw [z, h.tk x hx] at e; cases e) fun x hx z => by rw [z, h.wr x hx] at e; cases e
def Bd.works (B : Bd) (t : Str) (x : Tm) (m : Int) (wk : Str) : Bd := { B with teams := putA B.teams t { x with tasks := x.tasks ++ [(m, wk)] }, rows := B.rows ++ [(lit "works", m, [.str t, .str wk])] }
def Bd.sees (B : Bd) (t n : Str) (w : Wr) (m : Int) : Bd := { B with wears := putA B.wears (t, n) { w with inn := false }, rows := B.rows ++ [(lit "seen", m, [.str t, .str n])] }
def Bd.dies (B : Bd) (t n : Str) (w : Wr) (m : Int) : Bd := { B with wears := putA B.wears (t, n) { w with dead := true }, rows := B.rows ++ [(lit "dies", m, [.str t, .str n])] }
def Bd.gauge (B : Bd) (t n : Str) (w : Wr) (m : Int) (bar : Int) : Bd := { B with wears := putA B.wears (t, n) { w with bar := bar, since := m }, rows := B.rows ++ [(lit "gauge", m, [.str t, .str n, .int bar])] }
end DL
namespace DL
open PySem L2 Tx20 Tx21
def Bd.new (res : Int) : Bd := ⟨res, [], [], []⟩
def Bd.held (B : Bd) : List Str := (B.wears.filter fun x => x.2.inn).map fun x => x.2.name
abbrev En := Str × Int × Int
def enD (x : En) : D := .tup [.str x.1, .int x.2.1, .int x.2.2]
def enW (m : Int) (x : En) : Wr := ⟨x.1, x.2.1, x.2.2, m, false, false, true⟩
def goIn (t : Str) (m : Int) (es : List En) (l : List ((Str × Str) × Wr)) : List ((Str × Str) × Wr) := es.foldl (fun l x => putA l (t, x.1) (enW m x)) l
def Bd.enter (B : Bd) (t : Str) (m : Int) (es : List En) (door wk : Str) : Bd :=
  { B with teams := putA B.teams t ⟨door, es.map (·.1), [(m, wk)]⟩, wears := goIn t m es B.wears, rows := B.rows ++ [(lit "in", m, [.str t, .str door, .str wk, .tup (es.map enD)])] }
theorem goIn_len (t : Str) (m : Int) : ∀ (es : List En) (l : List ((Str × Str) × Wr)), (goIn t m es l).length ≤ l.length + es.length
  | [], l => Nat.le_refl _
  | x :: es, l => by
    show (goIn t m es (putA l (t, x.1) (enW m x))).length ≤ _
    have h1 := goIn_len t m es (putA l (t, x.1) (enW m x))
    have h2 := putA_len (l := l) (k := (t, x.1)) (v := enW m x)
    rw [List.length_cons]; omega
end DL
namespace DL
open PySem L2 Tx20 Tx21
theorem goIn_ne {t : Str} {m : Int} {k : Str × Str} : ∀ (es : List En) (l : List ((Str × Str) × Wr)), (∀ y ∈ es, k ≠ (t, y.1)) → getA (goIn t m es l) k = getA l k
  | [], _, _ => rfl
  | x :: es, l, h => by
    show getA (goIn t m es (putA l (t, x.1) (enW m x))) k = _
    rw [goIn_ne es _ fun y hy => h y (List.mem_cons_of_mem _ hy), getA_put, if_neg (h x (List.mem_cons_self ..))]
theorem goIn_get {t : Str} {m : Int} : ∀ (es : List En) (l : List ((Str × Str) × Wr)), (es.map (·.1)).Nodup → ∀ x ∈ es, getA (goIn t m es l) (t, x.1) = some (enW m x)
  | y :: es, l, nd, x, hx => by
    rw [List.map_cons, List.nodup_cons] at nd
    show getA (goIn t m es (putA l (t, y.1) (enW m y))) (t, x.1) = _
    rcases List.mem_cons.mp hx with rfl | hx
    · rw [goIn_ne es _ fun z hz e => nd.1 (by rw [show x.1 = z.1 from congrArg Prod.snd e]; exact List.mem_map_of_mem hz), getA_put, if_pos rfl]
    · exact goIn_get es _ nd.2 x hx
end DL
namespace DL
open PySem L2 Tx20 Tx21
inductive Dd
  | ent (t : Str) (m : Int) (es : List En) (door wk : Str)
  | wks (t : Str) (m : Int) (wk : Str)
  | gau (t n : Str) (m bar : Int)
  | die (t n : Str) (m : Int)
  | los (t n : Str) (m : Int)
  | out (t n : Str) (m : Int)
  | see (t n : Str) (m : Int)
def Dd.row : Dd → Str × Int × List D
  | ent t m es door wk => (lit "in", m, [.str t, .str door, .str wk, .tup (es.map enD)])
  | wks t m wk => (lit "works", m, [.str t, .str wk])
  | gau t n m bar => (lit "gauge", m, [.str t, .str n, .int bar])
  | die t n m => (lit "dies", m, [.str t, .str n])
  | los t n m => (lit "lost", m, [.str t, .str n])
  | out t n m => (lit "out", m, [.str t, .str n])
  | see t n m => (lit "seen", m, [.str t, .str n])
def Dd.min : Dd → Int
  | ent _ m _ _ _ => m
  | wks _ m _ => m
  | gau _ _ m _ => m
  | die _ _ m => m
  | los _ _ m => m
  | out _ _ m => m
  | see _ _ m => m
theorem Dd.row_min (d : Dd) : d.row.2.1 = d.min := by cases d <;> rfl
inductive Rf
  | late | inside | dead
  | noTeam (t : Str)
  | noWearer (n : Str)
def Bd.late (B : Bd) (m : Int) : Bool := match B.rows.getLast? with
  | some x => decide (m < x.2.1)
  | none => false
theorem late_ok {B : Bd} {m : Int} (h : B.late m = false) : B.lastOk m := fun x e => by
  unfold Bd.late at h; rw [e] at h; have := of_decide_eq_false h; omega
def noOne : Wr := ⟨PySem.Str.ofString "", 0, 0, 0, false, false, false⟩
def Bd.wear (B : Bd) (t n : Str) : Wr := (getA B.wears (t, n)).getD noOne
def Bd.refN (B : Bd) (t n : Str) : Option Rf := if B.namesIn t = [] then some (.noTeam t) else if n ∈ B.namesIn t then none else some (.noWearer n)
def Bd.refD (B : Bd) (t n : Str) : Option Rf := match B.refN t n with
  | some r => some r
  | none => if (B.wear t n).dead = true then some .dead else none
def Bd.taken (B : Bd) (t : Str) (es : List En) : Bool := !(B.namesIn t).isEmpty || es.any fun x => decide (x.1 ∈ B.held)
def Bd.refO (B : Bd) (t n : Str) : Option Rf := match getA B.teams t with
  | none => some (.noTeam t)
  | some x => if n ∈ x.names then none else some (.noWearer n)
def Bd.refS (B : Bd) : Dd → Option Rf
  | .ent t _ es _ _ => if B.taken t es = true then some .inside else none
  | .wks t _ _ => if B.namesIn t = [] then some (.noTeam t) else none
  | .gau t n _ _ => B.refD t n
  | .die t n _ => B.refD t n
  | .los t n _ => B.refN t n
  | .see t n _ => B.refN t n
  | .out t n _ => B.refO t n
def Bd.refu (B : Bd) (d : Dd) : Option Rf := if B.late d.min = true then some .late else B.refS d
def Bd.goes (B : Bd) (t n : Str) : Bool := (B.wear t n).inn && !(B.wear t n).lost
def Bd.ans (B : Bd) : Dd → D
  | .out t n _ => if (B.wear t n).inn = true then (if (B.wear t n).lost = true then .str (lit "found") else .str (lit "out")) else .str (lit "double")
  | _ => .non
def Bd.isRow (B : Bd) : Dd → Bool
  | .out t n _ => B.goes t n
  | _ => true
def Bd.loses (B : Bd) (t n : Str) (w : Wr) (m : Int) : Bd := { B with wears := putA B.wears (t, n) { w with lost := true }, rows := B.rows ++ [(lit "lost", m, [.str t, .str n])] }
def Bd.outs (B : Bd) (t n : Str) (w : Wr) (m : Int) : Bd := { B with wears := putA B.wears (t, n) { w with inn := false }, rows := B.rows ++ [(lit "out", m, [.str t, .str n])] }
def Bd.act (B : Bd) : Dd → Bd
  | .ent t m es door wk => B.enter t m es door wk
  | .wks t m wk => match getA B.teams t with
    | some x => B.works t x m wk
    | none => B
  | .gau t n m bar => B.gauge t n (B.wear t n) m bar
  | .die t n m => B.dies t n (B.wear t n) m
  | .los t n m => B.loses t n (B.wear t n) m
  | .see t n m => B.sees t n (B.wear t n) m
  | .out t n m => if B.goes t n = true then B.outs t n (B.wear t n) m else B
def bar_ok (w : Wr) : Prop := 0 ≤ w.bar ∧ w.bar ≤ 301 ∧ 1 ≤ w.size ∧ w.size ≤ 12 ∧ 0 ≤ w.since ∧ w.since ≤ 9999
structure EnOk (es : List En) : Prop where
  nd : (es.map (·.1)).Nodup
  l0 : es ≠ []
  l4 : es.length ≤ 4
  bs : ∀ e ∈ es, 0 ≤ e.2.1 ∧ e.2.1 ≤ 301 ∧ 1 ≤ e.2.2 ∧ e.2.2 ≤ 12
def Dd.ok : Dd → Prop
  | ent _ m es _ wk => 0 ≤ m ∧ m ≤ 9999 ∧ EnOk es ∧ okWork wk
  | wks _ m wk => 0 ≤ m ∧ m ≤ 9999 ∧ okWork wk
  | gau _ _ m bar => 0 ≤ m ∧ m ≤ 9999 ∧ 0 ≤ bar ∧ bar ≤ 301
  | die _ _ m => 0 ≤ m ∧ m ≤ 9999
  | los _ _ m => 0 ≤ m ∧ m ≤ 9999
  | out _ _ m => 0 ≤ m ∧ m ≤ 9999
  | see _ _ m => 0 ≤ m ∧ m ≤ 9999
structure TmOk (B : Bd) (t : Str) (x : Tm) (n : Nat) : Prop where
  nd : x.names.Nodup
  l4 : x.names.length ≤ 4
  l0 : x.names ≠ []
  tl : x.tasks.length ≤ n
  wk : ∀ y ∈ x.tasks, okWork y.2
  fst : ∃ m0 w0 ts, x.tasks = (m0, w0) :: ts ∧ ∀ nm ∈ x.names, ∃ w, getA B.wears (t, nm) = some w ∧ m0 ≤ w.since
/-- a board after so many rows -/
structure BO (B : Bd) (n : Nat) : Prop where
  rl : B.rows.length = n
  tl : B.teams.length ≤ n
  wl : B.wears.length ≤ 4 * n
  nt : (B.teams.map (·.1)).Nodup
  nw : (B.wears.map (·.1)).Nodup
  rm : ∀ r ∈ B.rows, 0 ≤ r.2.1 ∧ r.2.1 ≤ 9999
  tm : ∀ t x, getA B.teams t = some x → TmOk B t x n
  wr : ∀ t n w, getA B.wears (t, n) = some w → w.name = n ∧ bar_ok w ∧ (w.inn = true → ∃ x, getA B.teams t = some x ∧ n ∈ x.names) ∧ ∃ r, B.rows.getLast? = some r ∧ w.since ≤ r.2.1
  rs : 1 ≤ B.res ∧ B.res ≤ 100
theorem BO.new {res : Int} (h : 1 ≤ res) (h2 : res ≤ 100) : BO (Bd.new res) 0 :=
  { rl := rfl, tl := Nat.le_refl _, wl := Nat.le_refl _, nt := List.nodup_nil, nw := List.nodup_nil, rm := (fun _ h => nomatch h), tm := (fun _ _ h => by cases h), wr := (fun _ _ _ h => by cases h), rs := ⟨h, h2⟩ }
theorem names_of {B : Bd} {t n : Str} : n ∈ B.namesIn t ↔ ∃ x, getA B.teams t = some x ∧ n ∈ x.names ∧ B.inOf t n = true := by
  constructor
  · exact names_get
  · rintro ⟨x, e, h1, h2⟩
    unfold Bd.namesIn; rw [e]
    exact List.mem_filter.mpr ⟨h1, h2⟩
theorem BO.wearAt {B : Bd} {n : Nat} (h : BO B n) {t nm : Str} {x : Tm} (e : getA B.teams t = some x) (hn : nm ∈ x.names) : getA B.wears (t, nm) = some (B.wear t nm) := by
  obtain ⟨_, _, _, _, k2⟩ := (h.tm t x e).fst
  obtain ⟨w, e, _⟩ := k2 nm hn
  unfold Bd.wear; rw [e]; rfl
theorem wear_get {B : Bd} {t n : Str} {w : Wr} (e : getA B.wears (t, n) = some w) : B.wear t n = w := by unfold Bd.wear; rw [e]; rfl
/-- nobody of a team is in: each of its wearers is out -/
theorem BO.none_in {B : Bd} {n : Nat} (h : BO B n) {t nm : Str} {w : Wr} (e0 : B.namesIn t = []) (e : getA B.wears (t, nm) = some w) : w.inn = false := by
  cases hi : w.inn with
  | false => rfl
  | true =>
    obtain ⟨x, e1, e2⟩ := (h.wr t nm w e).2.2.1 hi
    have : nm ∈ B.namesIn t := names_of.mpr ⟨x, e1, e2, by unfold Bd.inOf; rw [e]; exact hi⟩
    rw [e0] at this; cases this
theorem last_snoc {rs : List (Str × Int × List D)} {x : Str × Int × List D} : (rs ++ [x]).getLast? = some x := by simp
theorem BO.setW {B : Bd} {n : Nat} (h : BO B n) {t nm : Str} {x : Tm} {w' : Wr} {m : Int} {k : Str} {ds : List D} (e : getA B.teams t = some x) (hx : nm ∈ x.names) (hl : B.lastOk m) (hm : 0 ≤ m ∧ m ≤ 9999) (a1 : w'.name = nm) (a2 : bar_ok w')
    (a3 : (B.wear t nm).since ≤ w'.since) (a4 : w'.since ≤ m) : BO { B with wears := putA B.wears (t, nm) w', rows := B.rows ++ [(k, m, ds)] } (n + 1) := by
  have g := h.wearAt e hx
  exact {
    rl := by simp [h.rl]
    tl := by have := h.tl; show B.teams.length ≤ _; omega
    wl := by
      have : ((putA B.wears (t, nm) w').map (·.1)).length = (B.wears.map (·.1)).length := by rw [put_keys g]
      simp only [List.length_map] at this
      have := h.wl
      show (putA B.wears (t, nm) w').length ≤ _
      omega
    nt := h.nt
    nw := putA_nodup h.nw
    rm := fun r hr => by
      rcases List.mem_append.mp hr with hr | hr
      · exact h.rm r hr
      · rw [List.mem_singleton.mp hr]; exact hm
    tm := fun t' x' e' => by
      have k := h.tm t' x' e'
      refine { k with tl := by have := k.tl; omega, fst := ?_ }
      obtain ⟨m0, w0, ts, k1, k2⟩ := k.fst
      refine ⟨m0, w0, ts, k1, fun z hz => ?_⟩
      obtain ⟨w, w1, w2⟩ := k2 z hz
      show ∃ w, getA (putA B.wears (t, nm) w') (t', z) = some w ∧ _
      rw [getA_put]
      split
      · next c =>
        refine ⟨w', rfl, ?_⟩
        rw [c, g] at w1
        cases w1
        omega
      · exact ⟨w, w1, w2⟩
    wr := fun t' z w hw => by
      change getA (putA B.wears (t, nm) w') (t', z) = some w at hw
      rw [getA_put] at hw
      split at hw
      · next c =>
        cases hw
        cases c
        exact ⟨a1, a2, fun _ => ⟨x, e, hx⟩, _, last_snoc, a4⟩
      · obtain ⟨b1, b2, b3, r, b4, b5⟩ := h.wr t' z w hw
        exact ⟨b1, b2, b3, _, last_snoc, by have := hl r b4; show w.since ≤ m; omega⟩
    rs := h.rs }
theorem BO.worked {B : Bd} {n : Nat} (h : BO B n) {t : Str} {x : Tm} {m : Int} {wk : Str} (e : getA B.teams t = some x) (hl : B.lastOk m) (hm : 0 ≤ m ∧ m ≤ 9999) (hw : okWork wk) : BO (B.works t x m wk) (n + 1) :=
  { rl := by simp [Bd.works, h.rl]
    tl := by
      have : ((putA B.teams t { x with tasks := x.tasks ++ [(m, wk)] }).map (·.1)).length = (B.teams.map (·.1)).length := by rw [put_keys e]
      simp only [List.length_map] at this
      have := h.tl
      show (putA B.teams t _).length ≤ _
      omega
    wl := by have := h.wl; show B.wears.length ≤ _; omega
    nt := putA_nodup h.nt
    nw := h.nw
    rm := fun r hr => by
      rcases List.mem_append.mp hr with hr | hr
      · exact h.rm r hr
      · rw [List.mem_singleton.mp hr]; exact hm
    tm := fun t' x' e' => by
      change getA (putA B.teams t _) t' = some x' at e'
      rw [getA_put] at e'
      split at e'
      · next c =>
        cases e'
        subst c
        have k := h.tm t' x e
        obtain ⟨m0, w0, ts, k1, k2⟩ := k.fst
        refine { nd := k.nd, l4 := k.l4, l0 := k.l0, tl := ?_, wk := fun y hy => ?_, fst := ⟨m0, w0, ts ++ [(m, wk)], by show x.tasks ++ [(m, wk)] = _; rw [k1]; rfl, k2⟩ }
        · have := k.tl; simp; omega
        · rcases List.mem_append.mp hy with hy | hy
          · exact k.wk y hy
          · rw [List.mem_singleton.mp hy]; exact hw
      · have k := h.tm t' x' e'
        exact { k with tl := by have := k.tl; omega }
    wr := fun t' z w hw => by
      obtain ⟨b1, b2, b3, r, b4, b5⟩ := h.wr t' z w hw
      refine ⟨b1, b2, fun hi => ?_, _, last_snoc, by have := hl r b4; show w.since ≤ m; omega⟩
      obtain ⟨y, y1, y2⟩ := b3 hi
      show ∃ y, getA (putA B.teams t _) t' = some y ∧ _
      rw [getA_put]
      split
      · next c =>
        subst c
        rw [e] at y1; cases y1
        exact ⟨_, rfl, y2⟩
      · exact ⟨y, y1, y2⟩
    rs := h.rs }
theorem BO.entered {B : Bd} {n : Nat} (h : BO B n) {t : Str} {m : Int} {es : List En} {door wk : Str} (hn : B.namesIn t = []) (hl : B.lastOk m) (hm : 0 ≤ m ∧ m ≤ 9999) (he : EnOk es) (hw : okWork wk) : BO (B.enter t m es door wk) (n + 1) :=
  { rl := by simp [Bd.enter, h.rl]
    tl := by have := h.tl; have := putA_len (l := B.teams) (k := t) (v := ⟨door, es.map (·.1), [(m, wk)]⟩); show (putA B.teams t _).length ≤ _; omega
    wl := by have := h.wl; have := goIn_len t m es B.wears; have := he.l4; show (goIn t m es B.wears).length ≤ _; omega
    nt := putA_nodup h.nt
    nw := by
      show ((goIn t m es B.wears).map (·.1)).Nodup
      have : ∀ (es : List En) (l : List ((Str × Str) × Wr)), (l.map (·.1)).Nodup → ((goIn t m es l).map (·.1)).Nodup := fun es => by
        induction es with
        | nil => exact fun _ h => h
        | cons x es ih => exact fun l h => ih _ (putA_nodup h)
      exact this es _ h.nw
    rm := fun r hr => by
      rcases List.mem_append.mp hr with hr | hr
      · exact h.rm r hr
      · rw [List.mem_singleton.mp hr]; exact hm
    tm := fun t' x' e' => by
      change getA (putA B.teams t _) t' = some x' at e'
      rw [getA_put] at e'
      split at e'
      · next c =>
        cases e'
        subst c
        refine { nd := he.nd, l4 := by rw [List.length_map]; exact he.l4, l0 := fun z => he.l0 (List.map_eq_nil_iff.mp z), tl := Nat.le_add_left _ _, wk := fun y hy => ?_, fst := ⟨m, wk, [], rfl, fun nm hnm => ?_⟩ }
        · rw [List.mem_singleton.mp hy]; exact hw
        · obtain ⟨x, hx, rfl⟩ := List.mem_map.mp hnm
          exact ⟨_, goIn_get es _ he.nd x hx, Int.le_refl _⟩
      · next c =>
        have k := h.tm t' x' e'
        refine { k with tl := by have := k.tl; omega, fst := ?_ }
        obtain ⟨m0, w0, ts, k1, k2⟩ := k.fst
        refine ⟨m0, w0, ts, k1, fun z hz => ?_⟩
        obtain ⟨w, w1, w2⟩ := k2 z hz
        exact ⟨w, by show getA (goIn t m es B.wears) (t', z) = _; rw [goIn_ne es _ fun y _ q => c (congrArg Prod.fst q)]; exact w1, w2⟩
    wr := fun t' z w hw => by
      change getA (goIn t m es B.wears) (t', z) = some w at hw
      by_cases c : ∃ x ∈ es, (t', z) = (t, x.1)
      · obtain ⟨x, hx, cc⟩ := c
        rw [cc, goIn_get es _ he.nd x hx] at hw
        cases hw
        cases cc
        have b := he.bs x hx
        refine ⟨rfl, ⟨b.1, b.2.1, b.2.2.1, b.2.2.2, hm.1, hm.2⟩, fun _ => ⟨⟨door, es.map (·.1), [(m, wk)]⟩, ?_, List.mem_map_of_mem hx⟩, _, last_snoc, Int.le_refl _⟩
        show getA (putA B.teams _ _) _ = _
        rw [getA_put, if_pos rfl]
      · rw [goIn_ne es _ fun y hy q => c ⟨y, hy, q⟩] at hw
        obtain ⟨b1, b2, b3, r, b4, b5⟩ := h.wr t' z w hw
        refine ⟨b1, b2, fun hi => ?_, _, last_snoc, by have := hl r b4; show w.since ≤ m; omega⟩
        have ne : t' ≠ t := fun q => by
          subst q
          rw [h.none_in hn hw] at hi; cases hi
        obtain ⟨y, y1, y2⟩ := b3 hi
        refine ⟨y, ?_, y2⟩
        show getA (putA B.teams t _) t' = _
        rw [getA_put, if_neg ne]; exact y1
    rs := h.rs }
theorem refu_parts {B : Bd} {d : Dd} (h : B.refu d = none) : B.lastOk d.min ∧ B.refS d = none := by
  unfold Bd.refu at h
  split at h
  · cases h
  · next c => exact ⟨late_ok (by simpa using c), h⟩
theorem refN_none {B : Bd} {t n : Str} (h : B.refN t n = none) : n ∈ B.namesIn t := by
  unfold Bd.refN at h
  split at h
  · cases h
  · split at h
    · next c => exact c
    · cases h
theorem refD_none {B : Bd} {t n : Str} (h : B.refD t n = none) : n ∈ B.namesIn t ∧ (B.wear t n).dead = false := by
  unfold Bd.refD at h
  split at h
  · cases h
  · next c =>
    split at h
    · cases h
    · next c2 => exact ⟨refN_none c, by simpa using c2⟩
theorem refO_none {B : Bd} {t n : Str} (h : B.refO t n = none) : ∃ x, getA B.teams t = some x ∧ n ∈ x.names := by
  unfold Bd.refO at h
  split at h
  · cases h
  · next x e =>
    split at h
    · next c => exact ⟨x, e, c⟩
    · cases h
theorem taken_no {B : Bd} {t : Str} {es : List En} (h : B.taken t es = false) : B.namesIn t = [] ∧ ∀ x ∈ es, x.1 ∉ B.held := by
  unfold Bd.taken at h
  rw [Bool.or_eq_false_iff, Bool.not_eq_false', List.isEmpty_iff, List.any_eq_false] at h
  exact ⟨h.1, fun x hx => by simpa using h.2 x hx⟩
theorem refW_none {B : Bd} {t : Str} (h : (if B.namesIn t = [] then some (Rf.noTeam t) else none) = none) : B.namesIn t ≠ [] := by
  split at h
  · cases h
  · next c => exact c
theorem names_team {B : Bd} {t : Str} (h : B.namesIn t ≠ []) : ∃ x, getA B.teams t = some x := by
  cases e : getA B.teams t with
  | some x => exact ⟨x, rfl⟩
  | none => exact absurd (by unfold Bd.namesIn; rw [e]) h
theorem BO.act {B : Bd} {n : Nat} (h : BO B n) {d : Dd} (ok : d.ok) (hr : B.refu d = none) (ir : B.isRow d = true) : BO (B.act d) (n + 1) := by
  obtain ⟨hl, hs⟩ := refu_parts hr
  cases d with
  | ent t m es door wk =>
    have c : B.taken t es = false := by cases e : B.taken t es with | false => rfl | true => rw [Bd.refS, e] at hs; cases hs
    exact h.entered (taken_no c).1 hl ⟨ok.1, ok.2.1⟩ ok.2.2.1 ok.2.2.2
  | wks t m wk =>
    obtain ⟨x, e⟩ := names_team (refW_none hs)
    rw [Bd.act, e]
    exact h.worked e hl ⟨ok.1, ok.2.1⟩ ok.2.2
  | gau t nm m bar =>
    obtain ⟨c1, c2⟩ := refD_none hs
    obtain ⟨x, e, e1, _⟩ := names_get c1
    obtain ⟨b1, b2, _, r, b4, b5⟩ := h.wr t nm _ (h.wearAt e e1)
    have hl' : (B.wear t nm).since ≤ m := by have := hl r b4; have : r.2.1 ≤ m := this; omega
    exact h.setW e e1 hl ⟨ok.1, ok.2.1⟩ b1 ⟨ok.2.2.1, ok.2.2.2, b2.2.2.1, b2.2.2.2.1, ok.1, ok.2.1⟩ hl' (Int.le_refl _)
  | die t nm m =>
    obtain ⟨c1, c2⟩ := refD_none hs
    obtain ⟨x, e, e1, _⟩ := names_get c1
    obtain ⟨b1, b2, _, r, b4, b5⟩ := h.wr t nm _ (h.wearAt e e1)
    exact h.setW e e1 hl ok b1 b2 (Int.le_refl _) (by have := hl r b4; show (B.wear t nm).since ≤ m; have : r.2.1 ≤ m := this; omega)
  | los t nm m =>
    obtain ⟨x, e, e1, _⟩ := names_get (refN_none hs)
    obtain ⟨b1, b2, _, r, b4, b5⟩ := h.wr t nm _ (h.wearAt e e1)
    exact h.setW e e1 hl ok b1 b2 (Int.le_refl _) (by have := hl r b4; show (B.wear t nm).since ≤ m; have : r.2.1 ≤ m := this; omega)
  | see t nm m =>
    obtain ⟨x, e, e1, _⟩ := names_get (refN_none hs)
    obtain ⟨b1, b2, _, r, b4, b5⟩ := h.wr t nm _ (h.wearAt e e1)
    exact h.setW e e1 hl ok b1 b2 (Int.le_refl _) (by have := hl r b4; show (B.wear t nm).since ≤ m; have : r.2.1 ≤ m := this; omega)
  | out t nm m =>
    obtain ⟨x, e, e1⟩ := refO_none hs
    obtain ⟨b1, b2, _, r, b4, b5⟩ := h.wr t nm _ (h.wearAt e e1)
    have g : B.goes t nm = true := ir
    rw [Bd.act, if_pos g]
    exact h.setW e e1 hl ok b1 b2 (Int.le_refl _) (by have := hl r b4; show (B.wear t nm).since ≤ m; have : r.2.1 ≤ m := this; omega)
theorem act_rows {B : Bd} {d : Dd} (hr : B.refu d = none) (ir : B.isRow d = true) : (B.act d).rows = B.rows ++ [d.row] := by
  obtain ⟨hl, hs⟩ := refu_parts hr
  cases d with
  | wks t m wk =>
    obtain ⟨x, e⟩ := names_team (refW_none hs)
    rw [Bd.act, e]; rfl
  | out t nm m =>
    have g : B.goes t nm = true := ir
    rw [Bd.act, if_pos g]; rfl
  | _ => rfl
theorem act_res {B : Bd} {d : Dd} : (B.act d).res = B.res := by
  cases d with
  | wks t m wk => show (match getA B.teams t with | some x => B.works t x m wk | none => B).res = _; cases getA B.teams t <;> rfl
  | out t nm m => show (if B.goes t nm = true then B.outs t nm (B.wear t nm) m else B).res = _; split <;> rfl
  | _ => rfl
/-- a board by its deeds -/
inductive Run (res : Int) : List Dd → Bd → Prop
  | nil : Run res [] (Bd.new res)
  | snoc {ds : List Dd} {B : Bd} {d : Dd} (h : Run res ds B) (ok : d.ok) (nr : B.refu d = none) (ir : B.isRow d = true) : Run res (ds ++ [d]) (B.act d)
theorem Run.bo {res : Int} (h1 : 1 ≤ res) (h2 : res ≤ 100) {ds : List Dd} {B : Bd} (h : Run res ds B) : BO B ds.length := by
  induction h with
  | nil => exact BO.new h1 h2
  | snoc h ok nr ir ih => rw [List.length_append]; exact ih.act ok nr ir
theorem Run.rows {res : Int} {ds : List Dd} {B : Bd} (h : Run res ds B) : B.rows = ds.map Dd.row := by
  induction h with
  | nil => rfl
  | snoc h ok nr ir ih => rw [act_rows nr ir, ih, List.map_append]; rfl
theorem Run.res {res : Int} {ds : List Dd} {B : Bd} (h : Run res ds B) : B.res = res := by
  induction h with
  | nil => rfl
  | snoc h ok nr ir ih => rw [act_res, ih]
end DL
namespace DL
open PySem L2 Tx20 Tx21
structure Cs where
  late : Addr
  inside : Addr
  dead : Addr
  noTeam : Addr
  noWearer : Addr
def Rf.dx (c : Cs) : Rf → DX
  | .late => ⟨.ref c.late, []⟩
  | .inside => ⟨.ref c.inside, []⟩
  | .dead => ⟨.ref c.dead, []⟩
  | .noTeam t => ⟨.ref c.noTeam, [(PySem.Str.ofString "team", .str t)]⟩
  | .noWearer n => ⟨.ref c.noWearer, [(PySem.Str.ofString "wearer", .str n)]⟩
def Own (q : Bp) (B : Bd) (a : Addr) : Prop := a = q.w ∨ a = q.t ∨ a = q.r ∨ (∃ x ∈ B.teams, a = q.tb x.1) ∨ ∃ x ∈ B.wears, a = q.wa x.1
/-- a board's own objects alone are changed, its new ones are new -/
structure Stp (M : Mst) (q : Bp) (B : Bd) (M' : Mst) (q' : Bp) (B' : Bd) : Prop where
  keep : ∀ a o, M a = some o → ¬ Own q B a → M' a = some o
  own : ∀ a, Own q' B' a → Own q B a ∨ M a = none
theorem Stp.refl (M : Mst) (q : Bp) (B : Bd) : Stp M q B M q B := ⟨fun _ _ h _ => h, fun _ h => .inl h⟩
theorem Stp.trans {M1 M2 M3 : Mst} {q1 q2 q3 : Bp} {B1 B2 B3 : Bd} (h : Stp M1 q1 B1 M2 q2 B2) (g : Stp M2 q2 B2 M3 q3 B3) : Stp M1 q1 B1 M3 q3 B3 := by
  refine ⟨fun a o e n => g.keep a o (h.keep a o e n) fun c => ?_, fun a c => ?_⟩
  · rcases h.own a c with c | c
    · exact n c
    · rw [c] at e; cases e
  · rcases g.own a c with c | c
    · exact h.own a c
    · cases e : M1 a with
      | none => exact .inr rfl
      | some o =>
        left
        cases Classical.em (Own q1 B1 a) with
        | inl z => exact z
        | inr z => rw [h.keep a o e z] at c; cases c
def TellP (c : Cs) (cB cT cW : Addr) (M : Mst) (b : Addr) (q : Bp) (B : Bd) (d : Dd) (Q : DK) (E : DX → Mst → Prop) : Prop :=
  (∀ r, B.refu d = some r → E (r.dx c) M) ∧ (B.refu d = none → ∀ q' M', IsB cB cT cW M' b q' (B.act d) → Stp M q B M' q' (B.act d) → Q (B.ans d) M')
theorem TellP.up {c : Cs} {cB cT cW : Addr} {M : Mst} {b : Addr} {q : Bp} {B : Bd} {d : Dd} {Q0 Q : DK} {E0 E : DX → Mst → Prop} (h : TellP c cB cT cW M b q B d Q0 E0) (kq : ∀ d M' M'', Sub M'' M' → Q0 d M'' → Q d M') (ke : ∀ x M' M'', Sub M'' M' → E0 x M'' → E x M') : TellP c cB cT cW M b q B d Q E :=
  ⟨fun r e => ke _ _ _ (Sub.refl _) (h.1 r e), fun e q' M' h1 h2 => kq _ _ _ (Sub.refl _) (h.2 e q' M' h1 h2)⟩
end DL
namespace DL
open PySem L2 Tx20 Tx21
end DL
namespace DL
open PySem L2 Tx20 Tx21
inductive Lb
  | root
  | team (t : Str)
  | tasks (t : Str)
  | people (t : Str)
  | one (t n : Str)
deriving DecidableEq
abbrev sk (s : String) : Key := Sum.inr (PySem.Str.ofString s)
def perD (w : Wr) : List (Key × D) := [(sk "bar", .int w.bar), (sk "size", .int w.size), (sk "since", .int w.since), (sk "dead", .bl w.dead), (sk "lost", .bl w.lost), (sk "in", .bl w.inn)]
def teamD (door : Str) (a c : Addr) : List (Key × D) := [(sk "door", .str door), (sk "works", .ref a), (sk "wearers", .ref c)]
def noTm : Tm := ⟨PySem.Str.ofString "", [], []⟩
def Bd.team (B : Bd) (t : Str) : Tm := (getA B.teams t).getD noTm
def liveL (B : Bd) : Lb → Prop
  | .root => True
  | .team t => (getA B.teams t).isSome = true
  | .tasks t => (getA B.teams t).isSome = true
  | .people t => (getA B.teams t).isSome = true
  | .one t n => (getA B.teams t).isSome = true ∧ n ∈ (B.team t).names
def pplD (ns : List Str) (g : Str → Addr) : List (Key × D) := ns.map fun n => (Sum.inr n, .ref (g n))
def conL (B : Bd) (f : Lb → Addr) : Lb → MO
  | .root => .dK (kvOf eT (fun t => f (.team t)) B.teams)
  | .team t => .dK (teamD (B.team t).door (f (.tasks t)) (f (.people t)))
  | .tasks t => .lst ((B.team t).tasks.map taskD)
  | .people t => .dK (pplD (B.team t).names fun n => f (.one t n))
  | .one t n => .dK (perD (B.wear t n))
structure IsL (M : Mst) (f : Lb → Addr) (B : Bd) : Prop where
  at_ : ∀ l, liveL B l → M (f l) = some (conL B f l)
  inj : ∀ l l', liveL B l → liveL B l' → f l = f l' → l = l'
theorem IsL.up {M M' : Mst} {f : Lb → Addr} {B : Bd} (h : IsL M f B) (s : Sub M M') : IsL M' f B := ⟨fun l hl => s _ _ (h.at_ l hl), h.inj⟩
theorem team_put {B : Bd} {t t' : Str} {x : Tm} {rows : List (Str × Int × List D)} : Bd.team { B with teams := putA B.teams t x, rows := rows } t' = if t' = t then x else B.team t' := by
  unfold Bd.team
  show (getA (putA B.teams t x) t').getD noTm = _
  rw [getA_put]
  split <;> rfl
/-- the places of a team that goes in -/
def newF (f : Lb → Addr) (t : Str) (aT aW aP : Addr) (g : Str → Addr) : Lb → Addr
  | .root => f .root
  | .team t' => updF (fun t => f (.team t)) t aT t'
  | .tasks t' => updF (fun t => f (.tasks t)) t aW t'
  | .people t' => updF (fun t => f (.people t)) t aP t'
  | .one t' n => if t' = t then g n else f (.one t' n)
def Lb.of (t : Str) : Lb → Prop
  | .root => False
  | .team t' => t' = t
  | .tasks t' => t' = t
  | .people t' => t' = t
  | .one t' _ => t' = t
theorem newF_old {f : Lb → Addr} {t : Str} {aT aW aP : Addr} {g : Str → Addr} {l : Lb} (h : ¬ l.of t) : newF f t aT aW aP g l = f l := by
  cases l with
  | root => rfl
  | team t' => exact updF_ne (f := fun t => f (.team t)) h
  | tasks t' => exact updF_ne (f := fun t => f (.tasks t)) h
  | people t' => exact updF_ne (f := fun t => f (.people t)) h
  | one t' n => exact if_neg h
structure Fresh5 (M : Mst) (aT aW aP : Addr) (g : Str → Addr) (ns : List Str) : Prop where
  n1 : M aT = none
  n2 : M aW = none
  n3 : M aP = none
  n4 : ∀ n ∈ ns, M (g n) = none
  d1 : aT ≠ aW
  d2 : aT ≠ aP
  d3 : aW ≠ aP
  d4 : ∀ n ∈ ns, g n ≠ aT ∧ g n ≠ aW ∧ g n ≠ aP
  d5 : ∀ n ∈ ns, ∀ n' ∈ ns, g n = g n' → n = n'
theorem team_ent {B : Bd} {t t' : Str} {m : Int} {es : List En} {door wk : Str} : Bd.team (B.enter t m es door wk) t' = if t' = t then ⟨door, es.map (·.1), [(m, wk)]⟩ else B.team t' := team_put (B := { B with wears := goIn t m es B.wears })
theorem IsL.enter {M M1 : Mst} {f : Lb → Addr} {B : Bd} (h : IsL M f B) (s : Sub M M1) {t : Str} {m : Int} {es : List En} {door wk : Str} {aT aW aP : Addr} {g : Str → Addr} (nd : (es.map (·.1)).Nodup) (F : Fresh5 M aT aW aP g (es.map (·.1)))
    (h1 : M1 aT = some (.dK (teamD door aW aP))) (h2 : M1 aW = some (.lst [taskD (m, wk)])) (h3 : M1 aP = some (.dK (pplD (es.map (·.1)) g))) (h4 : ∀ x ∈ es, M1 (g x.1) = some (.dK (perD (enW m x)))) :
    IsL (put M1 (f .root) (.dK (putD (kvOf eT (fun t => f (.team t)) B.teams) (eT t) (.ref aT)))) (newF f t aT aW aP g) (B.enter t m es door wk) := by
  have old : ∀ l, liveL B l → M (f l) ≠ none := fun l hl e => by rw [h.at_ l hl] at e; cases e
  have live2 : ∀ l, liveL (B.enter t m es door wk) l → ¬ l.of t → liveL B l := fun l hl hn => by
    have q : ∀ t', t' ≠ t → getA (B.enter t m es door wk).teams t' = getA B.teams t' := fun t' ne => by
      show getA (putA B.teams t _) t' = _; rw [getA_put, if_neg ne]
    cases l with
    | root => trivial
    | team t' => show (getA B.teams t').isSome = true; rw [← q t' hn]; exact hl
    | tasks t' => show (getA B.teams t').isSome = true; rw [← q t' hn]; exact hl
    | people t' => show (getA B.teams t').isSome = true; rw [← q t' hn]; exact hl
    | one t' n => exact ⟨by rw [← q t' hn]; exact hl.1, by have := hl.2; rw [team_ent, if_neg (show ¬ t' = t from hn)] at this; exact this⟩
  have new1 : ∀ l, liveL (B.enter t m es door wk) l → l.of t → M (newF f t aT aW aP g l) = none := fun l hl hn => by
    cases l with
    | root => exact hn.elim
    | team t' => cases hn; exact (congrArg M (updF_same (f := fun t => f (.team t)))).trans F.n1
    | tasks t' => cases hn; exact (congrArg M (updF_same (f := fun t => f (.tasks t)))).trans F.n2
    | people t' => cases hn; exact (congrArg M (updF_same (f := fun t => f (.people t)))).trans F.n3
    | one t' n =>
      cases hn
      have := hl.2
      rw [team_ent, if_pos rfl] at this
      exact (congrArg M (if_pos rfl)).trans (F.n4 n this)
  have rootL : liveL B .root := trivial
  refine ⟨fun l hl => ?_, fun l l' hl hl' e => ?_⟩
  · cases Classical.em (l.of t) with
    | inl ho =>
      have n0 : newF f t aT aW aP g l ≠ f .root := fun z => by have := new1 l hl ho; rw [z] at this; exact old _ rootL this
      rw [put_ne n0]
      cases l with
      | root => exact ho.elim
      | team t' =>
        cases ho
        have e1 : newF f t aT aW aP g (.team t) = aT := updF_same (f := fun t => f (.team t))
        have e2 : newF f t aT aW aP g (.tasks t) = aW := updF_same (f := fun t => f (.tasks t))
        have e3 : newF f t aT aW aP g (.people t) = aP := updF_same (f := fun t => f (.people t))
        show M1 (newF f t aT aW aP g (.team t)) = some (MO.dK (teamD (Bd.team _ t).door (newF f t aT aW aP g (.tasks t)) (newF f t aT aW aP g (.people t))))
        rw [e1, e2, e3, team_ent, if_pos rfl]; exact h1
      | tasks t' =>
        cases ho
        have e2 : newF f t aT aW aP g (.tasks t) = aW := updF_same (f := fun t => f (.tasks t))
        show M1 (newF f t aT aW aP g (.tasks t)) = some (MO.lst ((Bd.team _ t).tasks.map taskD))
        rw [e2, team_ent, if_pos rfl]; exact h2
      | people t' =>
        cases ho
        have e3 : newF f t aT aW aP g (.people t) = aP := updF_same (f := fun t => f (.people t))
        show M1 (newF f t aT aW aP g (.people t)) = some (MO.dK (pplD (Bd.team _ t).names fun n => newF f t aT aW aP g (.one t n)))
        rw [e3, team_ent, if_pos rfl, h3]
        refine congrArg (fun z => some (MO.dK z)) (List.map_congr_left fun n _ => ?_)
        show (Sum.inr n, D.ref (g n)) = ((Sum.inr n, D.ref (newF f t aT aW aP g (.one t n))) : Key × D)
        rw [show newF f t aT aW aP g (.one t n) = g n from if_pos rfl]
      | one t' n =>
        cases ho
        have e4 : newF f t aT aW aP g (.one t n) = g n := if_pos rfl
        have hm := hl.2
        rw [team_ent, if_pos rfl] at hm
        obtain ⟨x, hx, rfl⟩ := List.mem_map.mp hm
        show M1 (newF f t aT aW aP g (.one t x.1)) = some (MO.dK (perD (Bd.wear _ t x.1)))
        rw [e4, h4 x hx]
        have : Bd.wear (B.enter t m es door wk) t x.1 = enW m x := wear_get (goIn_get es B.wears nd x hx)
        rw [this]
    | inr ho =>
      have lv := live2 l hl ho
      rw [newF_old ho]
      cases l with
      | root =>
        rw [put_same]
        show some (MO.dK _) = some (MO.dK (kvOf eT (fun t' => newF f t aT aW aP g (.team t')) (putA B.teams t _)))
        rw [putD_kv eT_inj]; rfl
      | team t' =>
        rw [put_ne fun z => nomatch h.inj _ _ lv rootL z]
        refine (s _ _ (h.at_ _ lv)).trans ?_
        show some (MO.dK (teamD (B.team t').door (f (.tasks t')) (f (.people t')))) = some (MO.dK (teamD (Bd.team (B.enter t m es door wk) t').door (newF f t aT aW aP g (.tasks t')) (newF f t aT aW aP g (.people t'))))
        rw [team_ent, if_neg (show ¬ t' = t from ho), newF_old (l := .tasks t') ho, newF_old (l := .people t') ho]
      | tasks t' =>
        rw [put_ne fun z => nomatch h.inj _ _ lv rootL z]
        refine (s _ _ (h.at_ _ lv)).trans ?_
        show some (MO.lst ((B.team t').tasks.map taskD)) = some (MO.lst ((Bd.team (B.enter t m es door wk) t').tasks.map taskD))
        rw [team_ent, if_neg (show ¬ t' = t from ho)]
      | people t' =>
        rw [put_ne fun z => nomatch h.inj _ _ lv rootL z]
        refine (s _ _ (h.at_ _ lv)).trans ?_
        show some (MO.dK (pplD (B.team t').names fun n => f (.one t' n))) = some (MO.dK (pplD (Bd.team (B.enter t m es door wk) t').names fun n => newF f t aT aW aP g (.one t' n)))
        rw [team_ent, if_neg (show ¬ t' = t from ho)]
        refine congrArg (fun z => some (MO.dK z)) (List.map_congr_left fun n _ => ?_)
        show (Sum.inr n, D.ref (f (.one t' n))) = ((Sum.inr n, D.ref (newF f t aT aW aP g (.one t' n))) : Key × D)
        rw [newF_old (l := .one t' n) ho]
      | one t' n =>
        rw [put_ne fun z => nomatch h.inj _ _ lv rootL z]
        refine (s _ _ (h.at_ _ lv)).trans ?_
        show some (MO.dK (perD (B.wear t' n))) = some (MO.dK (perD (Bd.wear (B.enter t m es door wk) t' n)))
        have : Bd.wear (B.enter t m es door wk) t' n = B.wear t' n := by
          unfold Bd.wear
          show (getA (goIn t m es B.wears) (t', n)).getD noOne = _
          rw [goIn_ne es _ fun y _ q => ho (show t' = t from congrArg Prod.fst q)]
        rw [this]
  · cases Classical.em (l.of t) with
    | inl ho =>
      cases Classical.em (l'.of t) with
      | inr ho' =>
        rw [newF_old ho'] at e
        have := new1 l hl ho
        rw [e] at this
        exact absurd this (old _ (live2 l' hl' ho'))
      | inl ho' =>
        have eT : newF f t aT aW aP g (.team t) = aT := updF_same (f := fun t => f (.team t))
        have eW : newF f t aT aW aP g (.tasks t) = aW := updF_same (f := fun t => f (.tasks t))
        have eP : newF f t aT aW aP g (.people t) = aP := updF_same (f := fun t => f (.people t))
        have eO : ∀ n, newF f t aT aW aP g (.one t n) = g n := fun n => if_pos rfl
        have nm : ∀ n, liveL (B.enter t m es door wk) (.one t n) → n ∈ es.map (·.1) := fun n hh => by
          have := hh.2
          rw [team_ent, if_pos rfl] at this; exact this
        cases l with
        | root => exact ho.elim
        | team t1 =>
          cases ho
          cases l' with
          | root => exact ho'.elim
          | team t2 => cases ho'; rfl
          | tasks t2 => cases ho'; rw [eT, eW] at e; exact absurd e F.d1
          | people t2 => cases ho'; rw [eT, eP] at e; exact absurd e F.d2
          | one t2 n => cases ho'; rw [eT, eO] at e; exact absurd e.symm (F.d4 n (nm n hl')).1
        | tasks t1 =>
          cases ho
          cases l' with
          | root => exact ho'.elim
          | team t2 => cases ho'; rw [eT, eW] at e; exact absurd e.symm F.d1
          | tasks t2 => cases ho'; rfl
          | people t2 => cases ho'; rw [eW, eP] at e; exact absurd e F.d3
          | one t2 n => cases ho'; rw [eW, eO] at e; exact absurd e.symm (F.d4 n (nm n hl')).2.1
        | people t1 =>
          cases ho
          cases l' with
          | root => exact ho'.elim
          | team t2 => cases ho'; rw [eT, eP] at e; exact absurd e.symm F.d2
          | tasks t2 => cases ho'; rw [eW, eP] at e; exact absurd e.symm F.d3
          | people t2 => cases ho'; rfl
          | one t2 n => cases ho'; rw [eP, eO] at e; exact absurd e.symm (F.d4 n (nm n hl')).2.2
        | one t1 n =>
          cases ho
          cases l' with
          | root => exact ho'.elim
          | team t2 => cases ho'; rw [eT, eO] at e; exact absurd e (F.d4 n (nm n hl)).1
          | tasks t2 => cases ho'; rw [eW, eO] at e; exact absurd e (F.d4 n (nm n hl)).2.1
          | people t2 => cases ho'; rw [eP, eO] at e; exact absurd e (F.d4 n (nm n hl)).2.2
          | one t2 n2 => cases ho'; rw [eO, eO] at e; rw [F.d5 n (nm n hl) n2 (nm n2 hl') e]
    | inr ho =>
      cases Classical.em (l'.of t) with
      | inl ho' =>
        rw [newF_old ho] at e
        have := new1 l' hl' ho'
        rw [← e] at this
        exact absurd this (old _ (live2 l hl ho))
      | inr ho' =>
        rw [newF_old ho, newF_old ho'] at e
        exact h.inj _ _ (live2 l hl ho) (live2 l' hl' ho') e
end DL
namespace DL
open PySem L2 Tx20 Tx21
end DL
namespace DL
open PySem L2 Tx20 Tx21
/-- the law's state; its own dict may be walked meanwhile -/
structure IsLr (M : Mst) (f : Lb → Addr) (B : Bd) : Prop where
  ro : M (f .root) = some (.dK (kvOf eT (fun t => f (.team t)) B.teams)) ∨ ∃ ho, M (f .root) = some (.lk ho (kvOf eT (fun t => f (.team t)) B.teams))
  at_ : ∀ l, l ≠ .root → liveL B l → M (f l) = some (conL B f l)
  inj : ∀ l l', liveL B l → liveL B l' → f l = f l' → l = l'
theorem IsL.r {M : Mst} {f : Lb → Addr} {B : Bd} (h : IsL M f B) : IsLr M f B := ⟨.inl (h.at_ .root trivial), fun l _ hl => h.at_ l hl, h.inj⟩
theorem IsLr.up {M M' : Mst} {f : Lb → Addr} {B : Bd} (h : IsLr M f B) (s : Sub M M') : IsLr M' f B :=
  ⟨h.ro.imp (fun e => s _ _ e) fun ⟨ho, e⟩ => ⟨ho, s _ _ e⟩, fun l n hl => s _ _ (h.at_ l n hl), h.inj⟩
end DL
namespace DL
open PySem L2 Tx20 Tx21
def Rf.cls : Rf → Str
  | .late => lit "Late"
  | .inside => lit "Inside"
  | .dead => lit "Dead"
  | .noTeam _ => lit "NoTeam"
  | .noWearer _ => lit "NoWearer"
def Dd.word : Dd → Str
  | .ent .. => lit "in"
  | .wks .. => lit "works"
  | .gau .. => lit "gauge"
  | .die .. => lit "dies"
  | .los .. => lit "lost"
  | .out .. => lit "out"
  | .see .. => lit "seen"
def Dd.tm : Dd → Str
  | .ent t _ _ _ _ => t
  | .wks t _ _ => t
  | .gau t _ _ _ => t
  | .die t _ _ => t
  | .los t _ _ => t
  | .out t _ _ => t
  | .see t _ _ => t
def RowsAt (M : Mst) (r : Addr) (rs : List Dd) : Prop := M r = some (.lst (rs.map fun d => rowD d.row))
end DL
namespace DL
open PySem L2 Tx20 Tx21
end DL
namespace DL
open PySem L2 Tx20 Tx21
def tabL : Str := ("_law_done" : Str) ++ ".<locals>." ++ "<lambda>"
end DL
namespace DL
open PySem L2 Tx20 Tx21
end DL
namespace DL
open PySem L2 Tx20 Tx21
end DL
namespace DL
open PySem L2 Tx20 Tx21
theorem names_enter {B : Bd} {k : Nat} (hO : BO B k) {t : Str} {m : Int} {es : List En} {door wk : Str} (nd : (es.map (·.1)).Nodup) (t' n' : Str) : n' ∈ (B.enter t m es door wk).namesIn t' ↔ if t' = t then n' ∈ es.map (·.1) else n' ∈ B.namesIn t' := by
  by_cases c : t' = t
  · subst c
    rw [if_pos rfl, names_of]
    have e : getA (B.enter t' m es door wk).teams t' = some ⟨door, es.map (·.1), [(m, wk)]⟩ := by show getA (putA B.teams t' _) t' = _; rw [getA_put, if_pos rfl]
    constructor
    · rintro ⟨x, h1, h2, _⟩
      rw [e] at h1; cases h1; exact h2
    · intro h
      refine ⟨_, e, h, ?_⟩
      obtain ⟨x, hx, rfl⟩ := List.mem_map.mp h
      unfold Bd.inOf
      show (match getA (goIn t' m es B.wears) (t', x.1) with | some w => w.inn | none => false) = true
      rw [goIn_get es _ nd x hx]; rfl
  · rw [if_neg c, names_of, names_of]
    have e : getA (B.enter t m es door wk).teams t' = getA B.teams t' := by show getA (putA B.teams t _) t' = _; rw [getA_put, if_neg c]
    have e2 : (B.enter t m es door wk).inOf t' n' = B.inOf t' n' := by
      unfold Bd.inOf
      show (match getA (goIn t m es B.wears) (t', n') with | some w => w.inn | none => false) = _
      rw [goIn_ne es _ fun y _ q => c (congrArg Prod.fst q)] <;> rfl
    rw [e, e2]
end DL
namespace DL
open PySem L2 Tx20 Tx21
def q54Law (c_Board : Addr) (sp_Board___len__ : DSp) (sp_Board_inside : DSp) (sp__law_asked : DSp) (sp__law_bag : DSp) (sp__law_begun : DSp) (sp__law_done : DSp) (sp__law_entered : DSp) (sp__law_look : DSp) (sp__law_take : DSp) : DTS :=
  (qSeq (qAsg (qCall sp__law_begun [] (qCons (qCall sp__law_bag [] (qCons (qVar 0) (qCons (qC (.int 0)) qNil))) qNil)) (gTupD 3 (gConsD (gNameD 1) (gConsD (gNameD 2) (gConsD (gNameD 3) gNilD)))))
  (qSeq (qPar 4 5 (qCons (qLst true qNil) (qCons (qCall sp__law_take [] (qCons (qCall sp__law_bag [] (qCons (qVar 0) (qCons (qC (.int 1)) qNil))) (qCons (qC (.int 9000)) qNil))) qNil)))
  (qSeq (qIfS (qOr (qNot (qTB (qCall sp__law_entered [] (qCons (qVar 1) (qCons (qVar 4) (qCons (qVar 3) (qCons (qC (.int 0)) (qCons (qVar 5) qNil)))))))) (qNot (qTB (qCall sp__law_entered [] (qCons (qVar 1) (qCons (qVar 4) (qCons (qVar 3) (qCons (qC (.int 1)) (qCons (qVar 5) qNil)))))))))
  (qRet (qC (.bl false)))
  qNext)
  (qSeq (qFor (qiRng1 (qCons (qCB dMax2 (qCons (qC (.int 16)) (qCons (qCB dMin2 (qCons (qC (.int 30)) (qCons (qOp (dInt0 fun i j => i - j) (qCB dLen (qCons (qVar 0) qNil)) (qC (.int 2))) qNil))) qNil))) qNil)) (gNameD 6)
  (qSeq (qAsg (qCall sp__law_bag [] (qCons (qVar 0) (qCons (qOp (dAdd false) (qC (.int 2)) (qVar 6)) qNil))) (gNameD 7))
  (qSeq (qAsg (qCall sp__law_take [] (qCons (qVar 7) (qCons (qC (.int 2)) qNil))) (gNameD 8))
  (qIfS (qOr (qNot (qTB (qCall sp__law_done [] (qCons (qVar 1) (qCons (qVar 4) (qCons (qCall sp__law_asked [] (qCons (qVar 7) (qCons (qVar 4) (qCons (qVar 3) qNil)))) (qCons (qVar 8) qNil))))))) (qNot (qTB (qCall sp__law_look [] (qCons (qVar 1) (qCons (qVar 4) qNil))))))
  (qRet (qC (.bl false)))
  qNext))))
  (qSeq (qFor (qiAny (qMeth c_Board FBd sp_Board_inside [] (qVar 1) qNil)) (gTupD 3 (gConsD (gNameD 9) (gConsD (gNameD 10) (gConsD (gNameD 11) gNilD))))
  (qFor (qiAny (qVar 11)) (gNameD 12)
  (qIfS (qNot (qTB (qCall sp__law_done [] (qCons (qVar 1) (qCons (qVar 4) (qCons (qTup (qCons (qC (.str (PySem.Str.ofString "seen"))) (qCons (qOp dIx (qOp dIx (qVar 4) (qUn dNeg (qC (.int 1)))) (qC (.int 1))) (qCons (qVar 9) (qCons (qVar 12) qNil))))) (qCons (qC (.int 0)) qNil)))))))
  (qRet (qC (.bl false)))
  qNext)))
  (qSeq (qIfS (qOr (qTB (qOp (dEq true) (qCB (dOwnM c_Board fitLenD sp_Board___len__) (qCons (qVar 1) qNil)) (qC (.int 0)))) (qTM c_Board sp_Board___len__ (qVar 1)))
  (qRet (qC (.bl false)))
  qNext)
  (qSeq (qIfS (qOr (qNot (qTB (qCall sp__law_entered [] (qCons (qVar 1) (qCons (qVar 4) (qCons (qVar 3) (qCons (qC (.int 0)) (qCons (qOp dIx (qOp dIx (qVar 4) (qUn dNeg (qC (.int 1)))) (qC (.int 1))) qNil)))))))) (qTB (qOp (dEq true) (qCB (dOwnM c_Board fitLenD sp_Board___len__) (qCons (qVar 1) qNil)) (qC (.int 4)))))
  (qRet (qC (.bl false)))
  qNext)
  (qSeq (qFor (qiAny (qSl false (qVar 3) (qPart (qC (.int 3))) (qPart (qC (.int 7))))) (gNameD 12)
  (qFor (qiAny (qTup (qCons (qC (.str (PySem.Str.ofString "out"))) (qCons (qC (.str (PySem.Str.ofString "out"))) qNil)))) (gNameD 13)
  (qIfS (qOr (qNot (qTB (qCall sp__law_done [] (qCons (qVar 1) (qCons (qVar 4) (qCons (qTup (qCons (qVar 13) (qCons (qOp dIx (qOp dIx (qVar 4) (qUn dNeg (qC (.int 1)))) (qC (.int 1))) (qCons (qOp dIx (qVar 3) (qC (.int 0))) (qCons (qVar 12) qNil))))) (qCons (qC (.int 1)) qNil))))))) (qNot (qTB (qCall sp__law_look [] (qCons (qVar 1) (qCons (qVar 4) qNil))))))
  (qRet (qC (.bl false)))
  qNext)))
  (qRet (qOp (dEq false) (qCB (dOwnM c_Board fitLenD sp_Board___len__) (qCons (qVar 1) qNil)) (qC (.int 0))))))))))))
def lw_R0 (c_Board : Addr) (sp_Board___len__ : DSp) (sp_Board_inside : DSp) (sp__law_asked : DSp) (sp__law_bag : DSp) (sp__law_begun : DSp) (sp__law_done : DSp) (sp__law_entered : DSp) (sp__law_look : DSp) (sp__law_take : DSp) : DTS := (qAsg (qCall sp__law_begun [] (qCons (qCall sp__law_bag [] (qCons (qVar 0) (qCons (qC (.int 0)) qNil))) qNil)) (gTupD 3 (gConsD (gNameD 1) (gConsD (gNameD 2) (gConsD (gNameD 3) gNilD)))))
def lw_R1 (c_Board : Addr) (sp_Board___len__ : DSp) (sp_Board_inside : DSp) (sp__law_asked : DSp) (sp__law_bag : DSp) (sp__law_begun : DSp) (sp__law_done : DSp) (sp__law_entered : DSp) (sp__law_look : DSp) (sp__law_take : DSp) : DTS := (qPar 4 5 (qCons (qLst true qNil) (qCons (qCall sp__law_take [] (qCons (qCall sp__law_bag [] (qCons (qVar 0) (qCons (qC (.int 1)) qNil))) (qCons (qC (.int 9000)) qNil))) qNil)))
def lw_R2 (c_Board : Addr) (sp_Board___len__ : DSp) (sp_Board_inside : DSp) (sp__law_asked : DSp) (sp__law_bag : DSp) (sp__law_begun : DSp) (sp__law_done : DSp) (sp__law_entered : DSp) (sp__law_look : DSp) (sp__law_take : DSp) : DTS := (qIfS (qOr (qNot (qTB (qCall sp__law_entered [] (qCons (qVar 1) (qCons (qVar 4) (qCons (qVar 3) (qCons (qC (.int 0)) (qCons (qVar 5) qNil)))))))) (qNot (qTB (qCall sp__law_entered [] (qCons (qVar 1) (qCons (qVar 4) (qCons (qVar 3) (qCons (qC (.int 1)) (qCons (qVar 5) qNil))))))))) (qRet (qC (.bl false))) qNext)
def lw_R3 (c_Board : Addr) (sp_Board___len__ : DSp) (sp_Board_inside : DSp) (sp__law_asked : DSp) (sp__law_bag : DSp) (sp__law_begun : DSp) (sp__law_done : DSp) (sp__law_entered : DSp) (sp__law_look : DSp) (sp__law_take : DSp) : DTS := (qFor (qiRng1 (qCons (qCB dMax2 (qCons (qC (.int 16)) (qCons (qCB dMin2 (qCons (qC (.int 30)) (qCons (qOp (dInt0 fun i j => i - j) (qCB dLen (qCons (qVar 0) qNil)) (qC (.int 2))) qNil))) qNil))) qNil)) (gNameD 6) (qSeq (qAsg (qCall sp__law_bag [] (qCons (qVar 0) (qCons (qOp (dAdd false) (qC (.int 2)) (qVar 6)) qNil))) (gNameD 7)) (qSeq (qAsg (qCall sp__law_take [] (qCons (qVar 7) (qCons (qC (.int 2)) qNil))) (gNameD 8)) (qIfS (qOr (qNot (qTB (qCall sp__law_done [] (qCons (qVar 1) (qCons (qVar 4) (qCons (qCall sp__law_asked [] (qCons (qVar 7) (qCons (qVar 4) (qCons (qVar 3) qNil)))) (qCons (qVar 8) qNil))))))) (qNot (qTB (qCall sp__law_look [] (qCons (qVar 1) (qCons (qVar 4) qNil)))))) (qRet (qC (.bl false))) qNext))))
def lw_R4 (c_Board : Addr) (sp_Board___len__ : DSp) (sp_Board_inside : DSp) (sp__law_asked : DSp) (sp__law_bag : DSp) (sp__law_begun : DSp) (sp__law_done : DSp) (sp__law_entered : DSp) (sp__law_look : DSp) (sp__law_take : DSp) : DTS := (qFor (qiAny (qMeth c_Board FBd sp_Board_inside [] (qVar 1) qNil)) (gTupD 3 (gConsD (gNameD 9) (gConsD (gNameD 10) (gConsD (gNameD 11) gNilD)))) (qFor (qiAny (qVar 11)) (gNameD 12) (qIfS (qNot (qTB (qCall sp__law_done [] (qCons (qVar 1) (qCons (qVar 4) (qCons (qTup (qCons (qC (.str (PySem.Str.ofString "seen"))) (qCons (qOp dIx (qOp dIx (qVar 4) (qUn dNeg (qC (.int 1)))) (qC (.int 1))) (qCons (qVar 9) (qCons (qVar 12) qNil))))) (qCons (qC (.int 0)) qNil))))))) (qRet (qC (.bl false))) qNext)))
def lw_R5 (c_Board : Addr) (sp_Board___len__ : DSp) (sp_Board_inside : DSp) (sp__law_asked : DSp) (sp__law_bag : DSp) (sp__law_begun : DSp) (sp__law_done : DSp) (sp__law_entered : DSp) (sp__law_look : DSp) (sp__law_take : DSp) : DTS := (qIfS (qOr (qTB (qOp (dEq true) (qCB (dOwnM c_Board fitLenD sp_Board___len__) (qCons (qVar 1) qNil)) (qC (.int 0)))) (qTM c_Board sp_Board___len__ (qVar 1))) (qRet (qC (.bl false))) qNext)
def lw_R6 (c_Board : Addr) (sp_Board___len__ : DSp) (sp_Board_inside : DSp) (sp__law_asked : DSp) (sp__law_bag : DSp) (sp__law_begun : DSp) (sp__law_done : DSp) (sp__law_entered : DSp) (sp__law_look : DSp) (sp__law_take : DSp) : DTS := (qIfS (qOr (qNot (qTB (qCall sp__law_entered [] (qCons (qVar 1) (qCons (qVar 4) (qCons (qVar 3) (qCons (qC (.int 0)) (qCons (qOp dIx (qOp dIx (qVar 4) (qUn dNeg (qC (.int 1)))) (qC (.int 1))) qNil)))))))) (qTB (qOp (dEq true) (qCB (dOwnM c_Board fitLenD sp_Board___len__) (qCons (qVar 1) qNil)) (qC (.int 4))))) (qRet (qC (.bl false))) qNext)
def lw_R7 (c_Board : Addr) (sp_Board___len__ : DSp) (sp_Board_inside : DSp) (sp__law_asked : DSp) (sp__law_bag : DSp) (sp__law_begun : DSp) (sp__law_done : DSp) (sp__law_entered : DSp) (sp__law_look : DSp) (sp__law_take : DSp) : DTS := (qFor (qiAny (qSl false (qVar 3) (qPart (qC (.int 3))) (qPart (qC (.int 7))))) (gNameD 12) (qFor (qiAny (qTup (qCons (qC (.str (PySem.Str.ofString "out"))) (qCons (qC (.str (PySem.Str.ofString "out"))) qNil)))) (gNameD 13) (qIfS (qOr (qNot (qTB (qCall sp__law_done [] (qCons (qVar 1) (qCons (qVar 4) (qCons (qTup (qCons (qVar 13) (qCons (qOp dIx (qOp dIx (qVar 4) (qUn dNeg (qC (.int 1)))) (qC (.int 1))) (qCons (qOp dIx (qVar 3) (qC (.int 0))) (qCons (qVar 12) qNil))))) (qCons (qC (.int 1)) qNil))))))) (qNot (qTB (qCall sp__law_look [] (qCons (qVar 1) (qCons (qVar 4) qNil)))))) (qRet (qC (.bl false))) qNext)))
def lw_R8 (c_Board : Addr) (sp_Board___len__ : DSp) (sp_Board_inside : DSp) (sp__law_asked : DSp) (sp__law_bag : DSp) (sp__law_begun : DSp) (sp__law_done : DSp) (sp__law_entered : DSp) (sp__law_look : DSp) (sp__law_take : DSp) : DTS := (qRet (qOp (dEq false) (qCB (dOwnM c_Board fitLenD sp_Board___len__) (qCons (qVar 1) qNil)) (qC (.int 0))))
def lw_T8 (c_Board : Addr) (sp_Board___len__ : DSp) (sp_Board_inside : DSp) (sp__law_asked : DSp) (sp__law_bag : DSp) (sp__law_begun : DSp) (sp__law_done : DSp) (sp__law_entered : DSp) (sp__law_look : DSp) (sp__law_take : DSp) : DTS := lw_R8 c_Board sp_Board___len__ sp_Board_inside sp__law_asked sp__law_bag sp__law_begun sp__law_done sp__law_entered sp__law_look sp__law_take
def lw_T7 (c_Board : Addr) (sp_Board___len__ : DSp) (sp_Board_inside : DSp) (sp__law_asked : DSp) (sp__law_bag : DSp) (sp__law_begun : DSp) (sp__law_done : DSp) (sp__law_entered : DSp) (sp__law_look : DSp) (sp__law_take : DSp) : DTS := qSeq (lw_R7 c_Board sp_Board___len__ sp_Board_inside sp__law_asked sp__law_bag sp__law_begun sp__law_done sp__law_entered sp__law_look sp__law_take) (lw_T8 c_Board sp_Board___len__ sp_Board_inside sp__law_asked sp__law_bag sp__law_begun sp__law_done sp__law_entered sp__law_look sp__law_take)
def lw_T6 (c_Board : Addr) (sp_Board___len__ : DSp) (sp_Board_inside : DSp) (sp__law_asked : DSp) (sp__law_bag : DSp) (sp__law_begun : DSp) (sp__law_done : DSp) (sp__law_entered : DSp) (sp__law_look : DSp) (sp__law_take : DSp) : DTS := qSeq (lw_R6 c_Board sp_Board___len__ sp_Board_inside sp__law_asked sp__law_bag sp__law_begun sp__law_done sp__law_entered sp__law_look sp__law_take) (lw_T7 c_Board sp_Board___len__ sp_Board_inside sp__law_asked sp__law_bag sp__law_begun sp__law_done sp__law_entered sp__law_look sp__law_take)
def lw_T5 (c_Board : Addr) (sp_Board___len__ : DSp) (sp_Board_inside : DSp) (sp__law_asked : DSp) (sp__law_bag : DSp) (sp__law_begun : DSp) (sp__law_done : DSp) (sp__law_entered : DSp) (sp__law_look : DSp) (sp__law_take : DSp) : DTS := qSeq (lw_R5 c_Board sp_Board___len__ sp_Board_inside sp__law_asked sp__law_bag sp__law_begun sp__law_done sp__law_entered sp__law_look sp__law_take) (lw_T6 c_Board sp_Board___len__ sp_Board_inside sp__law_asked sp__law_bag sp__law_begun sp__law_done sp__law_entered sp__law_look sp__law_take)
def lw_T4 (c_Board : Addr) (sp_Board___len__ : DSp) (sp_Board_inside : DSp) (sp__law_asked : DSp) (sp__law_bag : DSp) (sp__law_begun : DSp) (sp__law_done : DSp) (sp__law_entered : DSp) (sp__law_look : DSp) (sp__law_take : DSp) : DTS := qSeq (lw_R4 c_Board sp_Board___len__ sp_Board_inside sp__law_asked sp__law_bag sp__law_begun sp__law_done sp__law_entered sp__law_look sp__law_take) (lw_T5 c_Board sp_Board___len__ sp_Board_inside sp__law_asked sp__law_bag sp__law_begun sp__law_done sp__law_entered sp__law_look sp__law_take)
def lw_T3 (c_Board : Addr) (sp_Board___len__ : DSp) (sp_Board_inside : DSp) (sp__law_asked : DSp) (sp__law_bag : DSp) (sp__law_begun : DSp) (sp__law_done : DSp) (sp__law_entered : DSp) (sp__law_look : DSp) (sp__law_take : DSp) : DTS := qSeq (lw_R3 c_Board sp_Board___len__ sp_Board_inside sp__law_asked sp__law_bag sp__law_begun sp__law_done sp__law_entered sp__law_look sp__law_take) (lw_T4 c_Board sp_Board___len__ sp_Board_inside sp__law_asked sp__law_bag sp__law_begun sp__law_done sp__law_entered sp__law_look sp__law_take)
def lw_T2 (c_Board : Addr) (sp_Board___len__ : DSp) (sp_Board_inside : DSp) (sp__law_asked : DSp) (sp__law_bag : DSp) (sp__law_begun : DSp) (sp__law_done : DSp) (sp__law_entered : DSp) (sp__law_look : DSp) (sp__law_take : DSp) : DTS := qSeq (lw_R2 c_Board sp_Board___len__ sp_Board_inside sp__law_asked sp__law_bag sp__law_begun sp__law_done sp__law_entered sp__law_look sp__law_take) (lw_T3 c_Board sp_Board___len__ sp_Board_inside sp__law_asked sp__law_bag sp__law_begun sp__law_done sp__law_entered sp__law_look sp__law_take)
def lw_T1 (c_Board : Addr) (sp_Board___len__ : DSp) (sp_Board_inside : DSp) (sp__law_asked : DSp) (sp__law_bag : DSp) (sp__law_begun : DSp) (sp__law_done : DSp) (sp__law_entered : DSp) (sp__law_look : DSp) (sp__law_take : DSp) : DTS := qSeq (lw_R1 c_Board sp_Board___len__ sp_Board_inside sp__law_asked sp__law_bag sp__law_begun sp__law_done sp__law_entered sp__law_look sp__law_take) (lw_T2 c_Board sp_Board___len__ sp_Board_inside sp__law_asked sp__law_bag sp__law_begun sp__law_done sp__law_entered sp__law_look sp__law_take)
def lw_T0 (c_Board : Addr) (sp_Board___len__ : DSp) (sp_Board_inside : DSp) (sp__law_asked : DSp) (sp__law_bag : DSp) (sp__law_begun : DSp) (sp__law_done : DSp) (sp__law_entered : DSp) (sp__law_look : DSp) (sp__law_take : DSp) : DTS := qSeq (lw_R0 c_Board sp_Board___len__ sp_Board_inside sp__law_asked sp__law_bag sp__law_begun sp__law_done sp__law_entered sp__law_look sp__law_take) (lw_T1 c_Board sp_Board___len__ sp_Board_inside sp__law_asked sp__law_bag sp__law_begun sp__law_done sp__law_entered sp__law_look sp__law_take)
theorem lw_cut (c_Board : Addr) (sp_Board___len__ : DSp) (sp_Board_inside : DSp) (sp__law_asked : DSp) (sp__law_bag : DSp) (sp__law_begun : DSp) (sp__law_done : DSp) (sp__law_entered : DSp) (sp__law_look : DSp) (sp__law_take : DSp) : q54Law c_Board sp_Board___len__ sp_Board_inside sp__law_asked sp__law_bag sp__law_begun sp__law_done sp__law_entered sp__law_look sp__law_take = lw_T0 c_Board sp_Board___len__ sp_Board_inside sp__law_asked sp__law_bag sp__law_begun sp__law_done sp__law_entered sp__law_look sp__law_take := rfl
theorem lw_t0 (c_Board : Addr) (sp_Board___len__ : DSp) (sp_Board_inside : DSp) (sp__law_asked : DSp) (sp__law_bag : DSp) (sp__law_begun : DSp) (sp__law_done : DSp) (sp__law_entered : DSp) (sp__law_look : DSp) (sp__law_take : DSp) {DW : DWt} {DE : DEnds} {p : Rho} {M : Mst} : lw_T0 c_Board sp_Board___len__ sp_Board_inside sp__law_asked sp__law_bag sp__law_begun sp__law_done sp__law_entered sp__law_look sp__law_take DW DE p M = lw_R0 c_Board sp_Board___len__ sp_Board_inside sp__law_asked sp__law_bag sp__law_begun sp__law_done sp__law_entered sp__law_look sp__law_take DW { DE with nx := lw_T1 c_Board sp_Board___len__ sp_Board_inside sp__law_asked sp__law_bag sp__law_begun sp__law_done sp__law_entered sp__law_look sp__law_take DW DE } p M := rfl
theorem lw_t1 (c_Board : Addr) (sp_Board___len__ : DSp) (sp_Board_inside : DSp) (sp__law_asked : DSp) (sp__law_bag : DSp) (sp__law_begun : DSp) (sp__law_done : DSp) (sp__law_entered : DSp) (sp__law_look : DSp) (sp__law_take : DSp) {DW : DWt} {DE : DEnds} {p : Rho} {M : Mst} : lw_T1 c_Board sp_Board___len__ sp_Board_inside sp__law_asked sp__law_bag sp__law_begun sp__law_done sp__law_entered sp__law_look sp__law_take DW DE p M = lw_R1 c_Board sp_Board___len__ sp_Board_inside sp__law_asked sp__law_bag sp__law_begun sp__law_done sp__law_entered sp__law_look sp__law_take DW { DE with nx := lw_T2 c_Board sp_Board___len__ sp_Board_inside sp__law_asked sp__law_bag sp__law_begun sp__law_done sp__law_entered sp__law_look sp__law_take DW DE } p M := rfl
theorem lw_t2 (c_Board : Addr) (sp_Board___len__ : DSp) (sp_Board_inside : DSp) (sp__law_asked : DSp) (sp__law_bag : DSp) (sp__law_begun : DSp) (sp__law_done : DSp) (sp__law_entered : DSp) (sp__law_look : DSp) (sp__law_take : DSp) {DW : DWt} {DE : DEnds} {p : Rho} {M : Mst} : lw_T2 c_Board sp_Board___len__ sp_Board_inside sp__law_asked sp__law_bag sp__law_begun sp__law_done sp__law_entered sp__law_look sp__law_take DW DE p M = lw_R2 c_Board sp_Board___len__ sp_Board_inside sp__law_asked sp__law_bag sp__law_begun sp__law_done sp__law_entered sp__law_look sp__law_take DW { DE with nx := lw_T3 c_Board sp_Board___len__ sp_Board_inside sp__law_asked sp__law_bag sp__law_begun sp__law_done sp__law_entered sp__law_look sp__law_take DW DE } p M := rfl
theorem lw_t3 (c_Board : Addr) (sp_Board___len__ : DSp) (sp_Board_inside : DSp) (sp__law_asked : DSp) (sp__law_bag : DSp) (sp__law_begun : DSp) (sp__law_done : DSp) (sp__law_entered : DSp) (sp__law_look : DSp) (sp__law_take : DSp) {DW : DWt} {DE : DEnds} {p : Rho} {M : Mst} : lw_T3 c_Board sp_Board___len__ sp_Board_inside sp__law_asked sp__law_bag sp__law_begun sp__law_done sp__law_entered sp__law_look sp__law_take DW DE p M = lw_R3 c_Board sp_Board___len__ sp_Board_inside sp__law_asked sp__law_bag sp__law_begun sp__law_done sp__law_entered sp__law_look sp__law_take DW { DE with nx := lw_T4 c_Board sp_Board___len__ sp_Board_inside sp__law_asked sp__law_bag sp__law_begun sp__law_done sp__law_entered sp__law_look sp__law_take DW DE } p M := rfl
theorem lw_t4 (c_Board : Addr) (sp_Board___len__ : DSp) (sp_Board_inside : DSp) (sp__law_asked : DSp) (sp__law_bag : DSp) (sp__law_begun : DSp) (sp__law_done : DSp) (sp__law_entered : DSp) (sp__law_look : DSp) (sp__law_take : DSp) {DW : DWt} {DE : DEnds} {p : Rho} {M : Mst} : lw_T4 c_Board sp_Board___len__ sp_Board_inside sp__law_asked sp__law_bag sp__law_begun sp__law_done sp__law_entered sp__law_look sp__law_take DW DE p M = lw_R4 c_Board sp_Board___len__ sp_Board_inside sp__law_asked sp__law_bag sp__law_begun sp__law_done sp__law_entered sp__law_look sp__law_take DW { DE with nx := lw_T5 c_Board sp_Board___len__ sp_Board_inside sp__law_asked sp__law_bag sp__law_begun sp__law_done sp__law_entered sp__law_look sp__law_take DW DE } p M := rfl
theorem lw_t5 (c_Board : Addr) (sp_Board___len__ : DSp) (sp_Board_inside : DSp) (sp__law_asked : DSp) (sp__law_bag : DSp) (sp__law_begun : DSp) (sp__law_done : DSp) (sp__law_entered : DSp) (sp__law_look : DSp) (sp__law_take : DSp) {DW : DWt} {DE : DEnds} {p : Rho} {M : Mst} : lw_T5 c_Board sp_Board___len__ sp_Board_inside sp__law_asked sp__law_bag sp__law_begun sp__law_done sp__law_entered sp__law_look sp__law_take DW DE p M = lw_R5 c_Board sp_Board___len__ sp_Board_inside sp__law_asked sp__law_bag sp__law_begun sp__law_done sp__law_entered sp__law_look sp__law_take DW { DE with nx := lw_T6 c_Board sp_Board___len__ sp_Board_inside sp__law_asked sp__law_bag sp__law_begun sp__law_done sp__law_entered sp__law_look sp__law_take DW DE } p M := rfl
theorem lw_t6 (c_Board : Addr) (sp_Board___len__ : DSp) (sp_Board_inside : DSp) (sp__law_asked : DSp) (sp__law_bag : DSp) (sp__law_begun : DSp) (sp__law_done : DSp) (sp__law_entered : DSp) (sp__law_look : DSp) (sp__law_take : DSp) {DW : DWt} {DE : DEnds} {p : Rho} {M : Mst} : lw_T6 c_Board sp_Board___len__ sp_Board_inside sp__law_asked sp__law_bag sp__law_begun sp__law_done sp__law_entered sp__law_look sp__law_take DW DE p M = lw_R6 c_Board sp_Board___len__ sp_Board_inside sp__law_asked sp__law_bag sp__law_begun sp__law_done sp__law_entered sp__law_look sp__law_take DW { DE with nx := lw_T7 c_Board sp_Board___len__ sp_Board_inside sp__law_asked sp__law_bag sp__law_begun sp__law_done sp__law_entered sp__law_look sp__law_take DW DE } p M := rfl
/-- the law's board, its rows, its tables -/
structure LSt (P : Addr) (cB cT cW : Addr) (M : Mst) (b r : Addr) (res : Int) (rs : List Dd) (B : Bd) : Prop where
  tab : M P = some (.tab tabL)
  bd : ∃ q, IsB cB cT cW M b q B ∧ ¬ Own q B r
  rw : RowsAt M r rs
  run : Run res rs B
  r1 : 1 ≤ res
  r2 : res ≤ 100
theorem LSt.up {P cB cT cW : Addr} {M M' : Mst} {b r : Addr} {res : Int} {rs : List Dd} {B : Bd} (h : LSt P cB cT cW M b r res rs B) (s : Sub M M') : LSt P cB cT cW M' b r res rs B :=
  ⟨s _ _ h.tab, let ⟨q, h1, h2⟩ := h.bd; ⟨q, h1.up s, h2⟩, s _ _ h.rw, h.run, h.r1, h.r2⟩
theorem LSt.bo {P cB cT cW : Addr} {M : Mst} {b r : Addr} {res : Int} {rs : List Dd} {B : Bd} (h : LSt P cB cT cW M b r res rs B) : BO B rs.length := h.run.bo h.r1 h.r2
/-- of one team alone some are in, none of them lost -/
structure WT (B : Bd) (t0 : Str) (al rem : List Str) : Prop where
  nm : ∀ t n, n ∈ B.namesIn t ↔ t = t0 ∧ n ∈ rem
  tm : ∃ x, getA B.teams t0 = some x ∧ ∀ n ∈ al, n ∈ x.names
  lo : ∀ n ∈ rem, (B.wear t0 n).lost = false
/-- who is in when nobody was, and a team goes in -/
theorem WT.enter {B : Bd} {k : Nat} (hO : BO B k) (h : ∀ t, B.namesIn t = []) {t0 : Str} {m : Int} {es : List En} {door wk : Str} (nd : (es.map (·.1)).Nodup) : WT (B.enter t0 m es door wk) t0 (es.map (·.1)) (es.map (·.1)) := by
  refine ⟨fun t n => ?_, ⟨⟨door, es.map (·.1), [(m, wk)]⟩, ?_, fun n hn => hn⟩, fun n hn => ?_⟩
  · rw [names_enter hO nd]
    by_cases c : t = t0
    · rw [if_pos c]; exact ⟨fun z => ⟨c, z⟩, fun z => z.2⟩
    · rw [if_neg c, h t]; exact ⟨fun z => (List.not_mem_nil z).elim, fun z => absurd z.1 c⟩
  · show getA (putA B.teams t0 _) t0 = _
    rw [getA_put, if_pos rfl]
  · obtain ⟨x, hx, rfl⟩ := List.mem_map.mp hn
    have : Bd.wear (B.enter t0 m es door wk) t0 x.1 = enW m x := wear_get (goIn_get es B.wears nd x hx)
    rw [this]; rfl
end DL
namespace DL
open PySem L2 Tx20 Tx21
/-- the last row lies at no later minute -/
def LastM (rs : List Dd) (m : Int) : Prop := ∃ e, rs.getLast? = some e ∧ 0 ≤ e.min ∧ e.min ≤ m
theorem LastM.of {rs : List Dd} {B : Bd} {res : Int} (h : Run res rs B) (h1 : 1 ≤ res) (h2 : res ≤ 100) (ne : rs ≠ []) : LastM rs 9999 := by
  cases hx : rs.getLast? with
  | none => rw [List.getLast?_eq_none_iff] at hx; exact absurd hx ne
  | some x =>
    have := (h.bo h1 h2).rm x.row (by rw [h.rows]; exact List.mem_map.mpr ⟨x, List.mem_of_getLast? hx, rfl⟩)
    rw [Dd.row_min] at this
    exact ⟨x, hx, this⟩
end DL
namespace DL
open PySem L2 Tx20 Tx21
/-- a sender and a number -/
abbrev Kn := Str × Int
def eK (k : Kn) : List Key := [Sum.inr k.1, Sum.inl k.2]
structure IsR (c : Addr) (M : Mst) (r kd : Addr) (f : Kn → Addr) (l : List (Kn × List Str)) : Prop where
  ob : M r = some (.ins c [(PySem.Str.ofString "known", .ref kd)])
  kn : M kd = some (.dT (kvOf eK f l))
  tx : ∀ x ∈ l, M (f x.1) = some (.lst (x.2.map .str))
  nd : (l.map (·.1)).Nodup
  it : ∀ x ∈ l, ∀ y ∈ l, f x.1 = f y.1 → x.1 = y.1
def OwnR (kd : Addr) (f : Kn → Addr) (l : List (Kn × List Str)) (a : Addr) : Prop := a = kd ∨ ∃ x ∈ l, a = f x.1
theorem IsR.up {c : Addr} {M M' : Mst} {r kd : Addr} {f : Kn → Addr} {l : List (Kn × List Str)} (h : IsR c M r kd f l) (s : Sub M M') : IsR c M' r kd f l :=
  { h with ob := s _ _ h.ob, kn := s _ _ h.kn, tx := fun x hx => s _ _ (h.tx x hx) }
theorem IsR.keep {c : Addr} {M M' : Mst} {r kd : Addr} {f : Kn → Addr} {l : List (Kn × List Str)} (h : IsR c M r kd f l) (k : ∀ a o, M a = some o → (a = r ∨ OwnR kd f l a) → M' a = some o) : IsR c M' r kd f l :=
  { h with ob := k _ _ h.ob (.inl rfl), kn := k _ _ h.kn (.inr (.inl rfl)), tx := fun x hx => k _ _ (h.tx x hx) (.inr (.inr ⟨x, hx, rfl⟩)) }
theorem IsR.own {c : Addr} {M : Mst} {r kd : Addr} {f : Kn → Addr} {l : List (Kn × List Str)} (h : IsR c M r kd f l) {a : Addr} (ha : OwnR kd f l a) : (∃ es, M a = some (.lst es)) ∨ ∃ es, M a = some (.dT es) := by
  rcases ha with rfl | ⟨x, hx, rfl⟩
  · exact .inr ⟨_, h.kn⟩
  · exact .inl ⟨_, h.tx x hx⟩
/-- the texts heard under a key -/
def txA (l : List (Kn × List Str)) (k : Kn) : List Str := (getA l k).getD []
def hrA (l : List (Kn × List Str)) (k : Kn) (t : Str) : List (Kn × List Str) := if t ∈ txA l k then l else putA l k (txA l k ++ [t])
def anA (l : List (Kn × List Str)) (k : Kn) (t : Str) : Str := if t ∈ txA l k then PySem.Str.ofString "double" else if txA l k = [] then PySem.Str.ofString "new" else PySem.Str.ofString "clash"
def KeepR (kd : Addr) (f : Kn → Addr) (l : List (Kn × List Str)) (M M' : Mst) : Prop := ∀ a o, M a = some o → ¬ OwnR kd f l a → M' a = some o
theorem txA_none {l : List (Kn × List Str)} {k : Kn} (h : getA l k = none) : txA l k = [] := by unfold txA; rw [h]; rfl
theorem txA_some {l : List (Kn × List Str)} {k : Kn} {v : List Str} (h : getA l k = some v) : txA l k = v := by unfold txA; rw [h]; rfl
theorem OwnR.put {kd : Addr} {f f' : Kn → Addr} {l : List (Kn × List Str)} {k : Kn} {v : List Str} {a : Addr} (h : OwnR kd f' (putA l k v) a) (e : ∀ x ∈ l, x.1 ≠ k → f' x.1 = f x.1) : OwnR kd f l a ∨ a = f' k := by
  rcases h with rfl | ⟨x, hx, rfl⟩
  · exact .inl (.inl rfl)
  · rcases putA_mem hx with rfl | ⟨hx, hn⟩
    · exact .inr rfl
    · exact .inl (.inr ⟨x, hx, e x hx hn⟩)
end DL
namespace DL
open PySem L2 Tx20 Tx21
end DL
namespace DL
open PySem L2 Tx20 Tx21
abbrev Rw := Kn × Str
def ofK (rows : List Rw) (k : Kn) : List Str := (rows.filter fun r => decide (r.1 = k)).map (·.2)
/-- what stands by the rows -/
def stR (rows : List Rw) (k : Kn) : Option Str := match ofK rows k with | [t] => some t | _ => none
structure Rl (l : List (Kn × List Str)) (rows : List Rw) : Prop where
  tx : ∀ k, txA l k = ofK rows k
  ne : ∀ x ∈ l, x.2 ≠ []
  nd : (l.map (·.1)).Nodup
  rn : rows.Nodup
theorem Rl.nil : Rl [] [] := ⟨fun _ => rfl, (fun x hx => nomatch hx), List.nodup_nil, List.nodup_nil⟩
theorem mem_ofK {rows : List Rw} {k : Kn} {t : Str} : t ∈ ofK rows k ↔ (k, t) ∈ rows := by
  unfold ofK
  rw [List.mem_map]
  constructor
  · rintro ⟨r, hr, rfl⟩
    rw [List.mem_filter] at hr
    have e := of_decide_eq_true hr.2
    rw [← e]; exact hr.1
  · intro h
    exact ⟨_, List.mem_filter.mpr ⟨h, decide_eq_true rfl⟩, rfl⟩
theorem Rl.ans {l : List (Kn × List Str)} {rows : List Rw} (h : Rl l rows) (k : Kn) (t : Str) : anA l k t = if (k, t) ∈ rows then PySem.Str.ofString "double" else if ofK rows k = [] then PySem.Str.ofString "new" else PySem.Str.ofString "clash" := by
  have e : t ∈ txA l k ↔ (k, t) ∈ rows := by rw [h.tx]; exact mem_ofK
  unfold anA
  by_cases c : (k, t) ∈ rows
  · rw [if_pos (e.mpr c), if_pos c]
  · rw [if_neg fun z => c (e.mp z), if_neg c, h.tx]
def lone (rows : List Rw) (r : Rw) : Bool := (ofK rows r.1).length == 1
theorem lone_st {rows : List Rw} {r : Rw} (h : r ∈ rows) : lone rows r = true ↔ stR rows r.1 = some r.2 := by
  unfold lone stR
  have hm := mem_ofK.mpr (show (r.1, r.2) ∈ rows from h)
  match e : ofK rows r.1, hm with
  | [t], hm => simp at hm; simp [hm]
  | t :: t2 :: v, hm => simp
theorem Rl.len {l : List (Kn × List Str)} {rows : List Rw} (h : Rl l rows) : (l.filter fun x => x.2.length == 1).length = (rows.filter (lone rows)).length := by
  have p : ((l.filter fun x => x.2.length == 1).map (·.1)).Perm ((rows.filter (lone rows)).map (·.1)) := by
    refine (List.perm_ext_iff_of_nodup ?_ ?_).mpr fun k => ?_
    · exact (List.filter_sublist.map _).nodup h.nd
    · refine List.pairwise_map.mpr (List.Pairwise.imp_of_mem (fun {a b} ha hb ne e => ne ?_) (h.rn.filter _))
      rw [List.mem_filter] at ha hb
      have h1 := (lone_st ha.1).mp ha.2
      have h2 := (lone_st hb.1).mp hb.2
      rw [e, h2] at h1
      exact Prod.ext e (Option.some.inj h1).symm
    · rw [List.mem_map, List.mem_map]
      constructor
      · rintro ⟨x, hx, rfl⟩
        rw [List.mem_filter, beq_iff_eq] at hx
        have e : ofK rows x.1 = x.2 := by rw [← h.tx, txA_some (getA_mem h.nd hx.1)]
        match ex : x.2, hx.2 with
        | [t], _ =>
          have hm : (x.1, t) ∈ rows := mem_ofK.mp (by rw [e, ex]; exact List.mem_singleton.mpr rfl)
          exact ⟨(x.1, t), List.mem_filter.mpr ⟨hm, by unfold lone; rw [e, ex]; rfl⟩, rfl⟩
      · rintro ⟨r, hr, rfl⟩
        rw [List.mem_filter] at hr
        have h1 := hr.2
        unfold lone at h1
        rw [← h.tx] at h1
        cases e : getA l r.1 with
        | none => rw [txA_none e] at h1; cases h1
        | some v =>
          rw [txA_some e] at h1
          exact ⟨(r.1, v), List.mem_filter.mpr ⟨getA_some e, h1⟩, rfl⟩
  have := p.length_eq
  simpa using this
end DL
namespace DL
open PySem L2 Tx20 Tx21
/-- what one radio's hearing does to the memory -/
structure Ch (c : Addr) (r kd : Addr) (f : Kn → Addr) (l : List (Kn × List Str)) (M : Mst) (f' : Kn → Addr) (l' : List (Kn × List Str)) (M' : Mst) : Prop where
  R : IsR c M' r kd f' l'
  nw : ∀ a, OwnR kd f' l' a → OwnR kd f l a ∨ M a = none
  kp : KeepR kd f l M M'
section
variable {c r kd : Addr} {f f' f2 : Kn → Addr} {l l' l2 : List (Kn × List Str)} {M M' M2 : Mst}
theorem Ch.refl (h : IsR c M r kd f l) : Ch c r kd f l M f l M := ⟨h, fun _ h => .inl h, fun _ _ e _ => e⟩
theorem Ch.trans (h : Ch c r kd f l M f' l' M') (g : Ch c r kd f' l' M' f2 l2 M2) : Ch c r kd f l M f2 l2 M2 := by
  refine ⟨g.R, fun a ha => ?_, fun a o e n => ?_⟩
  · rcases g.nw a ha with h1 | h1
    · exact h.nw a h1
    · cases e : M a with
      | none => exact .inr rfl
      | some o =>
        by_cases n : OwnR kd f l a
        · exact .inl n
        · rw [h.kp a o e n] at h1; cases h1
  · refine g.kp a o (h.kp a o e n) fun n2 => ?_
    rcases h.nw a n2 with h1 | h1
    · exact n h1
    · rw [e] at h1; cases h1
theorem Ch.up (h : Ch c r kd f l M f' l' M') (s : Sub M' M2) : Ch c r kd f l M f' l' M2 := ⟨h.R.up s, h.nw, fun a o e n => s _ _ (h.kp a o e n)⟩
/-- small enough -/
def Sz (n : Nat) (l : List (Kn × List Str)) : Prop := l.length ≤ n ∧ ∀ x ∈ l, x.2.length ≤ n
theorem Sz.nil {n : Nat} : Sz n [] := ⟨Nat.zero_le _, fun _ h => nomatch h⟩
theorem Sz.hr {n : Nat} (h : Sz n l) (k : Kn) (t : Str) : Sz (n + 1) (hrA l k t) := by
  unfold hrA
  split
  · exact ⟨Nat.le_succ_of_le h.1, fun x hx => Nat.le_succ_of_le (h.2 x hx)⟩
  · refine ⟨Nat.le_trans putA_len (Nat.succ_le_succ h.1), fun x hx => ?_⟩
    rcases putA_mem hx with rfl | ⟨hx, _⟩
    · simp only [List.length_append, List.length_singleton]
      unfold txA
      cases e : getA l k with
      | none => simp
      | some v => exact Nat.succ_le_succ (h.2 _ (getA_some e))
    · exact Nat.le_succ_of_le (h.2 x hx)
theorem Sz.mono {n m : Nat} (h : Sz n l) (e : n ≤ m) : Sz m l := ⟨Nat.le_trans h.1 e, fun x hx => Nat.le_trans (h.2 x hx) e⟩
variable {R : DK} {E : DX → Mst → Prop}
/-- what belongs to a radio -/
def Mine (r kd : Addr) (f : Kn → Addr) (l : List (Kn × List Str)) (a : Addr) : Prop := a = r ∨ OwnR kd f l a
theorem IsR.some (h : IsR c M r kd f l) {a : Addr} (ha : Mine r kd f l a) : ∃ o, M a = some o := by
  rcases ha with rfl | ha
  · exact ⟨_, h.ob⟩
  · rcases h.own ha with ⟨es, e⟩ | ⟨es, e⟩
    · exact ⟨_, e⟩
    · exact ⟨_, e⟩
def Apart (r kd : Addr) (f : Kn → Addr) (l : List (Kn × List Str)) (r' kd' : Addr) (f' : Kn → Addr) (l' : List (Kn × List Str)) : Prop := ∀ a, Mine r kd f l a → ¬ Mine r' kd' f' l' a
theorem Apart.symm {r' kd' : Addr} (h : Apart r kd f l r' kd' f' l') : Apart r' kd' f' l' r kd f l := fun a h1 h2 => h a h2 h1
end
end DL
namespace DL
open PySem L2 Tx20 Tx21
def qHNames (sp__law_take : DSp) : DTS :=
  (qSeq (qAsg (qC (.str (PySem.Str.ofString "abcdefghijklmnopqrstuvwxyz"))) (gNameD 2))
  (qSeq (qAsg (qLst true qNil) (gNameD 3))
  (qSeq (qFor (qiRng1 (qCons (qVar 1) qNil)) (gNameD 4)
  (qSeq (qAsg (qIf (qTB (qOp (dCmpI fun i j => decide (j < i)) (qVar 4) (qC (.int 25)))) (qC (.int 7)) (qCall sp__law_take [] (qCons (qVar 0) (qCons (qC (.int 7)) qNil)))) (gNameD 5))
  (qSeq (qAsg (qBM "str" mJoin (qC (.str (PySem.Str.ofString ""))) (qCons (qLc false (qiRng1 (qCons (qVar 5) qNil)) (gNameD 7) qYes (qOp dIx (qVar 2) (qCall sp__law_take [] (qCons (qVar 0) (qCons (qC (.int 26)) qNil)))) [7]) qNil)) (gNameD 6))
  (qDrop (qBM "list" mApp (qVar 3) (qCons (qOp (dAdd false) (qVar 6) (qOp dIx (qVar 2) (qOp (dInt (fun _ j => 0 < j) fun i j => i % j) (qVar 4) (qC (.int 26))))) qNil))))))
  (qFrz 3 (qRet (qVar 3))))))
def nm_R0 (sp__law_take : DSp) : DTS := (qAsg (qC (.str (PySem.Str.ofString "abcdefghijklmnopqrstuvwxyz"))) (gNameD 2))
def nm_R1 (sp__law_take : DSp) : DTS := (qAsg (qLst true qNil) (gNameD 3))
def nm_R2 (sp__law_take : DSp) : DTS := (qFor (qiRng1 (qCons (qVar 1) qNil)) (gNameD 4) (qSeq (qAsg (qIf (qTB (qOp (dCmpI fun i j => decide (j < i)) (qVar 4) (qC (.int 25)))) (qC (.int 7)) (qCall sp__law_take [] (qCons (qVar 0) (qCons (qC (.int 7)) qNil)))) (gNameD 5)) (qSeq (qAsg (qBM "str" mJoin (qC (.str (PySem.Str.ofString ""))) (qCons (qLc false (qiRng1 (qCons (qVar 5) qNil)) (gNameD 7) qYes (qOp dIx (qVar 2) (qCall sp__law_take [] (qCons (qVar 0) (qCons (qC (.int 26)) qNil)))) [7]) qNil)) (gNameD 6)) (qDrop (qBM "list" mApp (qVar 3) (qCons (qOp (dAdd false) (qVar 6) (qOp dIx (qVar 2) (qOp (dInt (fun _ j => 0 < j) fun i j => i % j) (qVar 4) (qC (.int 26))))) qNil))))))
def nm_R3 (sp__law_take : DSp) : DTS := (qFrz 3 (qRet (qVar 3)))
def nm_T3 (sp__law_take : DSp) : DTS := nm_R3 sp__law_take
def nm_T2 (sp__law_take : DSp) : DTS := qSeq (nm_R2 sp__law_take) (nm_T3 sp__law_take)
def nm_T1 (sp__law_take : DSp) : DTS := qSeq (nm_R1 sp__law_take) (nm_T2 sp__law_take)
def nm_T0 (sp__law_take : DSp) : DTS := qSeq (nm_R0 sp__law_take) (nm_T1 sp__law_take)
theorem nm_cut (sp__law_take : DSp) : qHNames sp__law_take = nm_T0 sp__law_take := rfl
theorem nm_t0 (sp__law_take : DSp) {DW : DWt} {DE : DEnds} {p : Rho} {M : Mst} : nm_T0 sp__law_take DW DE p M = nm_R0 sp__law_take DW { DE with nx := nm_T1 sp__law_take DW DE } p M := rfl
theorem nm_t1 (sp__law_take : DSp) {DW : DWt} {DE : DEnds} {p : Rho} {M : Mst} : nm_T1 sp__law_take DW DE p M = nm_R1 sp__law_take DW { DE with nx := nm_T2 sp__law_take DW DE } p M := rfl
theorem nm_t2 (sp__law_take : DSp) {DW : DWt} {DE : DEnds} {p : Rho} {M : Mst} : nm_T2 sp__law_take DW DE p M = nm_R2 sp__law_take DW { DE with nx := nm_T3 sp__law_take DW DE } p M := rfl
def nb_R0 (sp__law_take : DSp) : DTS := (qAsg (qIf (qTB (qOp (dCmpI fun i j => decide (j < i)) (qVar 4) (qC (.int 25)))) (qC (.int 7)) (qCall sp__law_take [] (qCons (qVar 0) (qCons (qC (.int 7)) qNil)))) (gNameD 5))
def nb_R1 (sp__law_take : DSp) : DTS := (qAsg (qBM "str" mJoin (qC (.str (PySem.Str.ofString ""))) (qCons (qLc false (qiRng1 (qCons (qVar 5) qNil)) (gNameD 7) qYes (qOp dIx (qVar 2) (qCall sp__law_take [] (qCons (qVar 0) (qCons (qC (.int 26)) qNil)))) [7]) qNil)) (gNameD 6))
def nb_R2 (sp__law_take : DSp) : DTS := (qDrop (qBM "list" mApp (qVar 3) (qCons (qOp (dAdd false) (qVar 6) (qOp dIx (qVar 2) (qOp (dInt (fun _ j => 0 < j) fun i j => i % j) (qVar 4) (qC (.int 26))))) qNil)))
def nb_T2 (sp__law_take : DSp) : DTS := nb_R2 sp__law_take
def nb_T1 (sp__law_take : DSp) : DTS := qSeq (nb_R1 sp__law_take) (nb_T2 sp__law_take)
def nb_T0 (sp__law_take : DSp) : DTS := qSeq (nb_R0 sp__law_take) (nb_T1 sp__law_take)
theorem nm_for2 (sp__law_take : DSp) : nm_R2 sp__law_take = qFor (qiRng1 (qCons (qVar 1) qNil)) (gNameD 4) (nb_T0 sp__law_take) := rfl
theorem nb_t0 (sp__law_take : DSp) {DW : DWt} {DE : DEnds} {p : Rho} {M : Mst} : nb_T0 sp__law_take DW DE p M = nb_R0 sp__law_take DW { DE with nx := nb_T1 sp__law_take DW DE } p M := rfl
theorem nb_t1 (sp__law_take : DSp) {DW : DWt} {DE : DEnds} {p : Rho} {M : Mst} : nb_T1 sp__law_take DW DE p M = nb_R1 sp__law_take DW { DE with nx := nb_T2 sp__law_take DW DE } p M := rfl
def qHKind (sp__law_take : DSp) : DTS :=
  (qRet (qOp dIx (qTup (qCons (qC (.str (PySem.Str.ofString "house"))) (qCons (qC (.str (PySem.Str.ofString "car"))) (qCons (qC (.str (PySem.Str.ofString "chimney"))) (qCons (qC (.str (PySem.Str.ofString "grass"))) (qCons (qC (.str (PySem.Str.ofString "people"))) (qCons (qC (.str (PySem.Str.ofString "works"))) qNil))))))) (qCall sp__law_take [] (qCons (qVar 0) (qCons (qC (.int 6)) qNil)))))
def qHEngines (sp__law_names : DSp) (sp__law_take : DSp) : DTS :=
  (qSeq (qAsg (qOp dIx (qTup (qCons (qC (.int 4)) (qCons (qC (.int 8)) (qCons (qC (.int 2)) (qCons (qC (.int 24)) (qCons (qC (.int 1)) qNil)))))) (qCall sp__law_take [] (qCons (qVar 0) (qCons (qC (.int 5)) qNil)))) (gNameD 2))
  (qSeq (qAsg (qLst true qNil) (gNameD 3))
  (qSeq (qFor (qiAny (qCall sp__law_names [] (qCons (qVar 0) (qCons (qVar 2) qNil)))) (gNameD 4)
  (qSeq (qAsg (qOp dIx (qTup (qCons (qC (.str (PySem.Str.ofString "pump"))) (qCons (qC (.str (PySem.Str.ofString "ladder"))) (qCons (qC (.str (PySem.Str.ofString "tanker"))) (qCons (qC (.str (PySem.Str.ofString "pump"))) qNil))))) (qCall sp__law_take [] (qCons (qVar 0) (qCons (qC (.int 4)) qNil)))) (gNameD 5))
  (qDrop (qBM "list" mApp (qVar 3) (qCons (qTup (qCons (qVar 4) (qCons (qVar 5) (qCons (qOp dIx (qVar 1) (qCall sp__law_take [] (qCons (qVar 0) (qCons (qCB dLen (qCons (qVar 1) qNil)) qNil)))) (qCons (qOp (dAdd false) (qC (.int 1)) (qCall sp__law_take [] (qCons (qVar 0) (qCons (qC (.int 9)) qNil)))) qNil))))) qNil)))))
  (qRet (qCB dTuple (qCons (qVar 3) qNil))))))
def qHDeed (sp__law_kind : DSp) (sp__law_take : DSp) : DTS :=
  (qSeq (qAsg (qVar 1) (gTupD 3 (gConsD (gNameD 4) (gConsD (gNameD 5) (gConsD (gNameD 6) gNilD)))))
  (qSeq (qAsg (qOp dIx (qOp dIx (qVar 2) (qCall sp__law_take [] (qCons (qVar 0) (qCons (qCB dLen (qCons (qVar 2) qNil)) qNil)))) (qC (.int 0))) (gNameD 7))
  (qSeq (qAsg (qOp (dAdd false) (qC (.int 1)) (qCall sp__law_take [] (qCons (qVar 0) (qCons (qC (.int 200)) qNil)))) (gNameD 8))
  (qSeq (qIfS (qAnd (qTB (qOp (dEq true) (qVar 3) (qLst false qNil))) (qTB (qOp (dCmpI fun i j => decide (j < i)) (qCall sp__law_take [] (qCons (qVar 0) (qCons (qC (.int 8)) qNil))) (qC (.int 0)))))
  (qAsg (qOp dIx (qVar 3) (qCall sp__law_take [] (qCons (qVar 0) (qCons (qCB dLen (qCons (qVar 3) qNil)) qNil)))) (gNameD 8))
  qNext)
  (qSeq (qAsg (qCall sp__law_take [] (qCons (qVar 0) (qCons (qC (.int 19)) qNil))) (gNameD 9))
  (qSeq (qIfS (qTB (qOp (dCmpI fun i j => decide (i < j)) (qVar 9) (qC (.int 3))))
  (qRet (qTup (qCons (qC (.str (PySem.Str.ofString "call"))) (qCons (qOp dIx (qOp dIx (qVar 4) (qCall sp__law_take [] (qCons (qVar 0) (qCons (qCB dLen (qCons (qVar 4) qNil)) qNil)))) (qC (.int 0))) (qCons (qCall sp__law_kind [] (qCons (qVar 0) qNil)) qNil)))))
  qNext)
  (qSeq (qIfS (qTB (qOp (dCmpI fun i j => decide (i < j)) (qVar 9) (qC (.int 6))))
  (qRet (qTup (qCons (qC (.str (PySem.Str.ofString "send"))) (qCons (qVar 7) (qCons (qVar 8) qNil)))))
  qNext)
  (qSeq (qIfS (qTB (qOp (dCmpI fun i j => decide (i < j)) (qVar 9) (qC (.int 11))))
  (qRet (qTup (qCons (qOp dIx (qTup (qCons (qC (.str (PySem.Str.ofString "there"))) (qCons (qC (.str (PySem.Str.ofString "back"))) (qCons (qC (.str (PySem.Str.ofString "home"))) (qCons (qC (.str (PySem.Str.ofString "off"))) (qCons (qC (.str (PySem.Str.ofString "on"))) qNil)))))) (qOp (dInt0 fun i j => i - j) (qVar 9) (qC (.int 6)))) (qCons (qVar 7) qNil))))
  qNext)
  (qSeq (qIfS (qTB (qOp (dCmpI fun i j => decide (i < j)) (qVar 9) (qC (.int 13))))
  (qRet (qTup (qCons (qOp dIx (qTup (qCons (qC (.str (PySem.Str.ofString "stand"))) (qCons (qC (.str (PySem.Str.ofString "lend"))) qNil))) (qOp (dInt0 fun i j => i - j) (qVar 9) (qC (.int 11)))) (qCons (qVar 7) (qCons (qOp dIx (qVar 6) (qCall sp__law_take [] (qCons (qVar 0) (qCons (qCB dLen (qCons (qVar 6) qNil)) qNil)))) qNil)))))
  qNext)
  (qSeq (qIfS (qAnd (qTB (qOp (dCmpI fun i j => decide (i < j)) (qVar 9) (qC (.int 15)))) (qTB (qOp (dEq true) (qVar 5) (qTup qNil))))
  (qRet (qTup (qCons (qOp dIx (qTup (qCons (qC (.str (PySem.Str.ofString "shut"))) (qCons (qC (.str (PySem.Str.ofString "clear"))) qNil))) (qOp (dInt0 fun i j => i - j) (qVar 9) (qC (.int 13)))) (qCons (qCall sp__law_take [] (qCons (qVar 0) (qCons (qCB dLen (qCons (qVar 5) qNil)) qNil))) qNil))))
  qNext)
  (qRet (qOp dIx (qLst false (qCons (qTup (qCons (qC (.str (PySem.Str.ofString "again"))) (qCons (qVar 8) qNil))) (qCons (qTup (qCons (qC (.str (PySem.Str.ofString "make"))) (qCons (qVar 8) (qCons (qOp (dAdd false) (qC (.int 1)) (qCall sp__law_take [] (qCons (qVar 0) (qCons (qC (.int 20)) qNil)))) qNil)))) (qCons (qTup (qCons (qC (.str (PySem.Str.ofString "stop"))) (qCons (qVar 8) qNil))) (qCons (qTup (qCons (qC (.str (PySem.Str.ofString "nothing"))) qNil)) qNil))))) (qOp (dInt (fun _ j => 0 < j) fun i j => i % j) (qVar 9) (qC (.int 4)))))))))))))))
/-- the place of a name by its last sign and length -/
def idxW (w : Str) : Nat := (if w.length = 8 then 26 else 0) + (w.cps.toList.getLastD 0 - 97)
def spHNames : DSp := fun ds M Q _ => ∃ (b : Addr) (m : Nat), ds = [.ref b, .int (m : Int)] ∧ M b = some .bag ∧ m ≤ 52 ∧ ∀ zs : List Str, zs.length = m → zs.Nodup → (∀ z ∈ zs, nameS z = true) → Q (stL zs) M
theorem hnames_ok (ds : List D) (M : Mst) (Q : DK) (Ed : DX → Mst → Prop) (h : upSp spHNames ds M Q Ed) : qHNames spTake (fun x _ M => Ed x M) (retE Q) (startD ["_law_bag_here", "_law_many", "_law_letters", "_law_found", "_law_k", "_law_size", "_law_stem", "_law_turn"] ds) M := by
  obtain ⟨Q0, E0, ⟨b, m, rfl, hb, hm, k0⟩, kq, _⟩ := h
  have k : ∀ zs : List Str, zs.length = m → zs.Nodup → (∀ z ∈ zs, nameS z = true) → Q (stL zs) M := fun zs a c d => kq _ _ _ (Sub.refl _) (k0 zs a c d)
  clear kq k0
  rw [nm_cut, nm_t0]
  show nm_R0 _ _ _ [some (.ref b), some (.int (m : Int)), none, none, none, none, none, none] M
  simp only [nm_R0, qSeq, qAsg, qTup, qCons, qNil, qOp, qUn, qC, qCall, qVar, qLst, newL_f, qIfS, qTB, qNext, qRet, qDrop, qFor, qCB, qAug, qSl, qPart, qNoPart, gNameD, gSub_eq, dInt_i, dInt0_i, dAdd_i, dCmpI_i, List.set_cons_zero, List.set_cons_succ, List.getElem?_cons_zero, List.getElem?_cons_succ, List.append_nil, z_l0, z_l1, z_l2, z_l3, z_l4, z_l5, z_l6, z_l7, z_l8, z_l9, z_l19, z_l24, z_l25, true_and]
  show nm_T1 _ _ _ _ M
  rw [nm_t1]
  show nm_R1 _ _ _ _ M
  simp only [nm_R1, newL_t, qSeq, qAsg, qTup, qCons, qNil, qOp, qUn, qC, qCall, qVar, qLst, newL_f, qIfS, qTB, qNext, qRet, qDrop, qFor, qCB, qAug, qSl, qPart, qNoPart, gNameD, gSub_eq, dInt_i, dInt0_i, dAdd_i, dCmpI_i, List.set_cons_zero, List.set_cons_succ, List.getElem?_cons_zero, List.getElem?_cons_succ, List.append_nil, z_l0, z_l1, z_l2, z_l3, z_l4, z_l5, z_l6, z_l7, z_l8, z_l9, z_l19, z_l24, z_l25, true_and]
  intro l hl
  have nbl := ne_of_some hb hl
  show nm_T2 _ _ _ _ _
  rw [nm_t2]
  show nm_R2 _ _ _ _ _
  rw [nm_for2]
  simp only [qFor, qiRng1, qSeq, qAsg, qTup, qCons, qNil, qOp, qUn, qC, qCall, qVar, qLst, newL_f, qIfS, qTB, qNext, qRet, qDrop, qFor, qCB, qAug, qSl, qPart, qNoPart, gNameD, gSub_eq, dInt_i, dInt0_i, dAdd_i, dCmpI_i, List.set_cons_zero, List.set_cons_succ, List.getElem?_cons_zero, List.getElem?_cons_succ, List.append_nil, z_l0, z_l1, z_l2, z_l3, z_l4, z_l5, z_l6, z_l7, z_l8, z_l9, z_l19, z_l24, z_l25, true_and]
  refine ⟨by omega, by omega, ?_⟩
  refine loopL_inv (fun i p M' => ∃ (zs : List Str) (x4 x5 x6 : Option D), p = [some (.ref b), some (.int (m : Int)), some (.str (PySem.Str.ofString "abcdefghijklmnopqrstuvwxyz")), some (.ref l), x4, x5, x6, none] ∧ M' = put M l (.lst (zs.map D.str)) ∧ zs.map idxW = List.range i ∧ ∀ z ∈ zs, nameS z = true) (n := m) (by simp) (fun i d p M' R hd hI hR => ?_) (fun p M' hI => ?_)
    ⟨[], none, none, none, rfl, rfl, rfl, fun _ h => by cases h⟩
  · obtain ⟨zs, x4, x5, x6, rfl, rfl, hz, hn⟩ := hI
    obtain ⟨hi, rfl⟩ := range_at hd
    have hi : i < m := by simpa using hi
    have hb' : put M l (.lst (zs.map D.str)) b = some .bag := put_keep hb hl
    refine ⟨trivial, ?_⟩
    simp only [gNameD, List.set_cons_zero, List.set_cons_succ]
    have cont : ∀ q : Nat, q ≤ 7 → (q = 7 ↔ 25 < i) → nb_T1 spTake (fun x _ M => Ed x M) { nx := R, rt := (retE Q).rt, bk := nm_T3 spTake (fun x _ M => Ed x M) (retE Q), ct := R } [some (.ref b), some (.int (m : Int)), some (.str (PySem.Str.ofString "abcdefghijklmnopqrstuvwxyz")), some (.ref l), some (.int (i : Int)), some (.int (q : Int)), x6, none] (put M l (.lst (zs.map D.str))) := fun q q7 hq => by
      rw [nb_t1]
      show nb_R1 _ _ _ _ _
      simp only [nb_R1, qBM, qLc, qiRng1, qSeq, qAsg, qTup, qCons, qNil, qOp, qUn, qC, qCall, qVar, qLst, newL_f, qIfS, qTB, qNext, qRet, qDrop, qFor, qCB, qAug, qSl, qPart, qNoPart, gNameD, gSub_eq, dInt_i, dInt0_i, dAdd_i, dCmpI_i, List.set_cons_zero, List.set_cons_succ, List.getElem?_cons_zero, List.getElem?_cons_succ, List.append_nil, z_l0, z_l1, z_l2, z_l3, z_l4, z_l5, z_l6, z_l7, z_l8, z_l9, z_l19, z_l24, z_l25, true_and]
      refine ⟨rfl, by omega, by omega, fun c hc => ?_⟩
      refine lcR hc (fun _ => trivial) (by simp; omega) (fun _ y => ∃ c : Nat, y = .str (one c) ∧ Low c) (fun d hd M2 R2 S hR2 => ?_) fun ys hys => ?_
      · simp only [wipeD, qSeq, qAsg, qTup, qCons, qNil, qOp, qUn, qC, qCall, qVar, qLst, newL_f, qIfS, qTB, qNext, qRet, qDrop, qFor, qCB, qAug, qSl, qPart, qNoPart, gNameD, gSub_eq, dInt_i, dInt0_i, dAdd_i, dCmpI_i, List.set_cons_zero, List.set_cons_succ, List.getElem?_cons_zero, List.getElem?_cons_succ, List.append_nil, z_l0, z_l1, z_l2, z_l3, z_l4, z_l5, z_l6, z_l7, z_l8, z_l9, z_l19, z_l24, z_l25, true_and]
        refine take_call (S _ _ hb') (by decide) (by decide) fun y y0 y1 => ?_
        refine pick_s y0 (by rw [show (PySem.Str.ofString "abcdefghijklmnopqrstuvwxyz").length = 26 by decide +kernel]; exact y1) fun c hc => hR2 _ ⟨c, rfl, lett_low c hc⟩
      obtain ⟨cs, rfl, lc, hcs⟩ := ones_of hys
      have lc2 : cs.length = q := by rw [lc]; simp
      refine join_signs (fun c hc => by have := (hcs c hc).2; omega) (by omega) ?_
      have T : ∀ c ∈ (⟨cs.toArray⟩ : Str).cps.toList, Low c := fun c hc => hcs c (by simpa using hc)
      have L : (⟨cs.toArray⟩ : Str).length = q := by show cs.toArray.size = q; simpa using lc2
      generalize (⟨cs.toArray⟩ : Str) = st at T L
      simp only [nb_T2, nb_R2, qBM, qSeq, qAsg, qTup, qCons, qNil, qOp, qUn, qC, qCall, qVar, qLst, newL_f, qIfS, qTB, qNext, qRet, qDrop, qFor, qCB, qAug, qSl, qPart, qNoPart, gNameD, gSub_eq, dInt_i, dInt0_i, dAdd_i, dCmpI_i, List.set_cons_zero, List.set_cons_succ, List.getElem?_cons_zero, List.getElem?_cons_succ, List.append_nil, z_l0, z_l1, z_l2, z_l3, z_l4, z_l5, z_l6, z_l7, z_l8, z_l9, z_l19, z_l24, z_l25, true_and]
      refine ⟨by simp [res, put_same, tyOk], by decide, ?_⟩
      rw [show (i : Int) % 26 = ((i % 26 : Nat) : Int) by omega]
      refine ix_lett (Nat.mod_lt _ (by decide)) ?_
      have lone : (one (97 + i % 26)).length = 1 := rfl
      refine ⟨by omega, ?_⟩
      have hlen : zs.length = i := by have := congrArg List.length hz; simpa using this
      simp only [mApp, put_same, put_put]
      have lw : (st ++ one (97 + i % 26)).length = q + 1 := by rw [len_append]; omega
      have hx : idxW (st ++ one (97 + i % 26)) = i := by
        unfold idxW
        rw [lw, app_list, show (one (97 + i % 26)).cps.toList = [97 + i % 26] from rfl]
        rw [show (st.cps.toList ++ [97 + i % 26]).getLastD 0 = 97 + i % 26 by simp]
        by_cases c : q = 7
        · have := hq.mp c
          rw [if_pos (by omega)]; omega
        · have : ¬ 25 < i := fun z => c (hq.mpr z)
          rw [if_neg (by omega)]; omega
      refine ⟨by simp; omega, hR _ _ ⟨zs ++ [st ++ one (97 + i % 26)], _, _, _, rfl, by simp, by rw [List.map_append, hz, List.range_succ, List.map_singleton, hx], fun z hz => ?_⟩⟩
      rcases List.mem_append.mp hz with h | h
      · exact hn z h
      · rw [List.mem_singleton] at h; subst h
        refine nameS_of (by omega) (by omega) fun c hc => ?_
        rw [app_list, List.mem_append] at hc
        rcases hc with hc | hc
        · exact T c hc
        · have : c = 97 + i % 26 := by simpa using hc
          rw [this]; exact ⟨by omega, by omega⟩
    rw [nb_t0]
    show nb_R0 _ _ _ _ _
    simp only [nb_R0, qIf, qSeq, qAsg, qTup, qCons, qNil, qOp, qUn, qC, qCall, qVar, qLst, newL_f, qIfS, qTB, qNext, qRet, qDrop, qFor, qCB, qAug, qSl, qPart, qNoPart, gNameD, gSub_eq, dInt_i, dInt0_i, dAdd_i, dCmpI_i, List.set_cons_zero, List.set_cons_succ, List.getElem?_cons_zero, List.getElem?_cons_succ, List.append_nil, z_l0, z_l1, z_l2, z_l3, z_l4, z_l5, z_l6, z_l7, z_l8, z_l9, z_l19, z_l24, z_l25, true_and]
    by_cases c : 25 < i
    · rw [decide_eq_true (show (25 : Int) < i by omega)]
      exact cont 7 (by decide) ⟨fun _ => c, fun _ => rfl⟩
    · rw [decide_eq_false (show ¬ (25 : Int) < i by omega)]
      simp only [Bool.false_eq_true, if_false]
      refine take_call hb' (by decide) (by decide) fun r r0 r1 => ?_
      obtain ⟨q, rfl⟩ : ∃ q : Nat, r = q := ⟨r.toNat, by omega⟩
      exact cont q (by omega) ⟨fun z => by omega, fun z => absurd z c⟩
  · obtain ⟨zs, x4, x5, x6, rfl, rfl, hz, hn⟩ := hI
    refine ⟨trivial, ?_⟩
    simp only [nm_T3, nm_R3, qFrz, frz, put_same, List.getElem?_cons_zero, List.getElem?_cons_succ, qSeq, qAsg, qTup, qCons, qNil, qOp, qUn, qC, qCall, qVar, qLst, newL_f, qIfS, qTB, qNext, qRet, qDrop, qFor, qCB, qAug, qSl, qPart, qNoPart, gNameD, gSub_eq, dInt_i, dInt0_i, dAdd_i, dCmpI_i, List.set_cons_zero, List.set_cons_succ, List.getElem?_cons_zero, List.getElem?_cons_succ, List.append_nil, z_l0, z_l1, z_l2, z_l3, z_l4, z_l5, z_l6, z_l7, z_l8, z_l9, z_l19, z_l24, z_l25, true_and]
    rw [del_put hl]
    refine k zs (by have := congrArg List.length hz; simpa using this) (nd_of_map (f := idxW) (by rw [hz]; exact List.nodup_range)) hn
def en_R0 (sp__law_names : DSp) (sp__law_take : DSp) : DTS := (qAsg (qOp dIx (qTup (qCons (qC (.int 4)) (qCons (qC (.int 8)) (qCons (qC (.int 2)) (qCons (qC (.int 24)) (qCons (qC (.int 1)) qNil)))))) (qCall sp__law_take [] (qCons (qVar 0) (qCons (qC (.int 5)) qNil)))) (gNameD 2))
def en_R1 (sp__law_names : DSp) (sp__law_take : DSp) : DTS := (qAsg (qLst true qNil) (gNameD 3))
def en_R2 (sp__law_names : DSp) (sp__law_take : DSp) : DTS := (qFor (qiAny (qCall sp__law_names [] (qCons (qVar 0) (qCons (qVar 2) qNil)))) (gNameD 4) (qSeq (qAsg (qOp dIx (qTup (qCons (qC (.str (PySem.Str.ofString "pump"))) (qCons (qC (.str (PySem.Str.ofString "ladder"))) (qCons (qC (.str (PySem.Str.ofString "tanker"))) (qCons (qC (.str (PySem.Str.ofString "pump"))) qNil))))) (qCall sp__law_take [] (qCons (qVar 0) (qCons (qC (.int 4)) qNil)))) (gNameD 5)) (qDrop (qBM "list" mApp (qVar 3) (qCons (qTup (qCons (qVar 4) (qCons (qVar 5) (qCons (qOp dIx (qVar 1) (qCall sp__law_take [] (qCons (qVar 0) (qCons (qCB dLen (qCons (qVar 1) qNil)) qNil)))) (qCons (qOp (dAdd false) (qC (.int 1)) (qCall sp__law_take [] (qCons (qVar 0) (qCons (qC (.int 9)) qNil)))) qNil))))) qNil)))))
def en_R3 (sp__law_names : DSp) (sp__law_take : DSp) : DTS := (qRet (qCB dTuple (qCons (qVar 3) qNil)))
def en_T3 (sp__law_names : DSp) (sp__law_take : DSp) : DTS := en_R3 sp__law_names sp__law_take
def en_T2 (sp__law_names : DSp) (sp__law_take : DSp) : DTS := qSeq (en_R2 sp__law_names sp__law_take) (en_T3 sp__law_names sp__law_take)
def en_T1 (sp__law_names : DSp) (sp__law_take : DSp) : DTS := qSeq (en_R1 sp__law_names sp__law_take) (en_T2 sp__law_names sp__law_take)
def en_T0 (sp__law_names : DSp) (sp__law_take : DSp) : DTS := qSeq (en_R0 sp__law_names sp__law_take) (en_T1 sp__law_names sp__law_take)
theorem en_cut (sp__law_names : DSp) (sp__law_take : DSp) : qHEngines sp__law_names sp__law_take = en_T0 sp__law_names sp__law_take := rfl
theorem en_t0 (sp__law_names : DSp) (sp__law_take : DSp) {DW : DWt} {DE : DEnds} {p : Rho} {M : Mst} : en_T0 sp__law_names sp__law_take DW DE p M = en_R0 sp__law_names sp__law_take DW { DE with nx := en_T1 sp__law_names sp__law_take DW DE } p M := rfl
theorem en_t1 (sp__law_names : DSp) (sp__law_take : DSp) {DW : DWt} {DE : DEnds} {p : Rho} {M : Mst} : en_T1 sp__law_names sp__law_take DW DE p M = en_R1 sp__law_names sp__law_take DW { DE with nx := en_T2 sp__law_names sp__law_take DW DE } p M := rfl
theorem en_t2 (sp__law_names : DSp) (sp__law_take : DSp) {DW : DWt} {DE : DEnds} {p : Rho} {M : Mst} : en_T2 sp__law_names sp__law_take DW DE p M = en_R2 sp__law_names sp__law_take DW { DE with nx := en_T3 sp__law_names sp__law_take DW DE } p M := rfl
def eb_R0 (sp__law_names : DSp) (sp__law_take : DSp) : DTS := (qAsg (qOp dIx (qTup (qCons (qC (.str (PySem.Str.ofString "pump"))) (qCons (qC (.str (PySem.Str.ofString "ladder"))) (qCons (qC (.str (PySem.Str.ofString "tanker"))) (qCons (qC (.str (PySem.Str.ofString "pump"))) qNil))))) (qCall sp__law_take [] (qCons (qVar 0) (qCons (qC (.int 4)) qNil)))) (gNameD 5))
def eb_R1 (sp__law_names : DSp) (sp__law_take : DSp) : DTS := (qDrop (qBM "list" mApp (qVar 3) (qCons (qTup (qCons (qVar 4) (qCons (qVar 5) (qCons (qOp dIx (qVar 1) (qCall sp__law_take [] (qCons (qVar 0) (qCons (qCB dLen (qCons (qVar 1) qNil)) qNil)))) (qCons (qOp (dAdd false) (qC (.int 1)) (qCall sp__law_take [] (qCons (qVar 0) (qCons (qC (.int 9)) qNil)))) qNil))))) qNil)))
def eb_T1 (sp__law_names : DSp) (sp__law_take : DSp) : DTS := eb_R1 sp__law_names sp__law_take
def eb_T0 (sp__law_names : DSp) (sp__law_take : DSp) : DTS := qSeq (eb_R0 sp__law_names sp__law_take) (eb_T1 sp__law_names sp__law_take)
theorem en_for2 (sp__law_names : DSp) (sp__law_take : DSp) : en_R2 sp__law_names sp__law_take = qFor (qiAny (qCall sp__law_names [] (qCons (qVar 0) (qCons (qVar 2) qNil)))) (gNameD 4) (eb_T0 sp__law_names sp__law_take) := rfl
theorem eb_t0 (sp__law_names : DSp) (sp__law_take : DSp) {DW : DWt} {DE : DEnds} {p : Rho} {M : Mst} : eb_T0 sp__law_names sp__law_take DW DE p M = eb_R0 sp__law_names sp__law_take DW { DE with nx := eb_T1 sp__law_names sp__law_take DW DE } p M := rfl
def dw_R0 (sp__law_kind : DSp) (sp__law_take : DSp) : DTS := (qAsg (qVar 1) (gTupD 3 (gConsD (gNameD 4) (gConsD (gNameD 5) (gConsD (gNameD 6) gNilD)))))
def dw_R1 (sp__law_kind : DSp) (sp__law_take : DSp) : DTS := (qAsg (qOp dIx (qOp dIx (qVar 2) (qCall sp__law_take [] (qCons (qVar 0) (qCons (qCB dLen (qCons (qVar 2) qNil)) qNil)))) (qC (.int 0))) (gNameD 7))
def dw_R2 (sp__law_kind : DSp) (sp__law_take : DSp) : DTS := (qAsg (qOp (dAdd false) (qC (.int 1)) (qCall sp__law_take [] (qCons (qVar 0) (qCons (qC (.int 200)) qNil)))) (gNameD 8))
def dw_R3 (sp__law_kind : DSp) (sp__law_take : DSp) : DTS := (qIfS (qAnd (qTB (qOp (dEq true) (qVar 3) (qLst false qNil))) (qTB (qOp (dCmpI fun i j => decide (j < i)) (qCall sp__law_take [] (qCons (qVar 0) (qCons (qC (.int 8)) qNil))) (qC (.int 0))))) (qAsg (qOp dIx (qVar 3) (qCall sp__law_take [] (qCons (qVar 0) (qCons (qCB dLen (qCons (qVar 3) qNil)) qNil)))) (gNameD 8)) qNext)
def dw_R4 (sp__law_kind : DSp) (sp__law_take : DSp) : DTS := (qAsg (qCall sp__law_take [] (qCons (qVar 0) (qCons (qC (.int 19)) qNil))) (gNameD 9))
def dw_R5 (sp__law_kind : DSp) (sp__law_take : DSp) : DTS := (qIfS (qTB (qOp (dCmpI fun i j => decide (i < j)) (qVar 9) (qC (.int 3)))) (qRet (qTup (qCons (qC (.str (PySem.Str.ofString "call"))) (qCons (qOp dIx (qOp dIx (qVar 4) (qCall sp__law_take [] (qCons (qVar 0) (qCons (qCB dLen (qCons (qVar 4) qNil)) qNil)))) (qC (.int 0))) (qCons (qCall sp__law_kind [] (qCons (qVar 0) qNil)) qNil))))) qNext)
def dw_R6 (sp__law_kind : DSp) (sp__law_take : DSp) : DTS := (qIfS (qTB (qOp (dCmpI fun i j => decide (i < j)) (qVar 9) (qC (.int 6)))) (qRet (qTup (qCons (qC (.str (PySem.Str.ofString "send"))) (qCons (qVar 7) (qCons (qVar 8) qNil))))) qNext)
def dw_R7 (sp__law_kind : DSp) (sp__law_take : DSp) : DTS := (qIfS (qTB (qOp (dCmpI fun i j => decide (i < j)) (qVar 9) (qC (.int 11)))) (qRet (qTup (qCons (qOp dIx (qTup (qCons (qC (.str (PySem.Str.ofString "there"))) (qCons (qC (.str (PySem.Str.ofString "back"))) (qCons (qC (.str (PySem.Str.ofString "home"))) (qCons (qC (.str (PySem.Str.ofString "off"))) (qCons (qC (.str (PySem.Str.ofString "on"))) qNil)))))) (qOp (dInt0 fun i j => i - j) (qVar 9) (qC (.int 6)))) (qCons (qVar 7) qNil)))) qNext)
def dw_R8 (sp__law_kind : DSp) (sp__law_take : DSp) : DTS := (qIfS (qTB (qOp (dCmpI fun i j => decide (i < j)) (qVar 9) (qC (.int 13)))) (qRet (qTup (qCons (qOp dIx (qTup (qCons (qC (.str (PySem.Str.ofString "stand"))) (qCons (qC (.str (PySem.Str.ofString "lend"))) qNil))) (qOp (dInt0 fun i j => i - j) (qVar 9) (qC (.int 11)))) (qCons (qVar 7) (qCons (qOp dIx (qVar 6) (qCall sp__law_take [] (qCons (qVar 0) (qCons (qCB dLen (qCons (qVar 6) qNil)) qNil)))) qNil))))) qNext)
def dw_R9 (sp__law_kind : DSp) (sp__law_take : DSp) : DTS := (qIfS (qAnd (qTB (qOp (dCmpI fun i j => decide (i < j)) (qVar 9) (qC (.int 15)))) (qTB (qOp (dEq true) (qVar 5) (qTup qNil)))) (qRet (qTup (qCons (qOp dIx (qTup (qCons (qC (.str (PySem.Str.ofString "shut"))) (qCons (qC (.str (PySem.Str.ofString "clear"))) qNil))) (qOp (dInt0 fun i j => i - j) (qVar 9) (qC (.int 13)))) (qCons (qCall sp__law_take [] (qCons (qVar 0) (qCons (qCB dLen (qCons (qVar 5) qNil)) qNil))) qNil)))) qNext)
def dw_R10 (sp__law_kind : DSp) (sp__law_take : DSp) : DTS := (qRet (qOp dIx (qLst false (qCons (qTup (qCons (qC (.str (PySem.Str.ofString "again"))) (qCons (qVar 8) qNil))) (qCons (qTup (qCons (qC (.str (PySem.Str.ofString "make"))) (qCons (qVar 8) (qCons (qOp (dAdd false) (qC (.int 1)) (qCall sp__law_take [] (qCons (qVar 0) (qCons (qC (.int 20)) qNil)))) qNil)))) (qCons (qTup (qCons (qC (.str (PySem.Str.ofString "stop"))) (qCons (qVar 8) qNil))) (qCons (qTup (qCons (qC (.str (PySem.Str.ofString "nothing"))) qNil)) qNil))))) (qOp (dInt (fun _ j => 0 < j) fun i j => i % j) (qVar 9) (qC (.int 4)))))
def dw_T10 (sp__law_kind : DSp) (sp__law_take : DSp) : DTS := dw_R10 sp__law_kind sp__law_take
def dw_T9 (sp__law_kind : DSp) (sp__law_take : DSp) : DTS := qSeq (dw_R9 sp__law_kind sp__law_take) (dw_T10 sp__law_kind sp__law_take)
def dw_T8 (sp__law_kind : DSp) (sp__law_take : DSp) : DTS := qSeq (dw_R8 sp__law_kind sp__law_take) (dw_T9 sp__law_kind sp__law_take)
def dw_T7 (sp__law_kind : DSp) (sp__law_take : DSp) : DTS := qSeq (dw_R7 sp__law_kind sp__law_take) (dw_T8 sp__law_kind sp__law_take)
def dw_T6 (sp__law_kind : DSp) (sp__law_take : DSp) : DTS := qSeq (dw_R6 sp__law_kind sp__law_take) (dw_T7 sp__law_kind sp__law_take)
def dw_T5 (sp__law_kind : DSp) (sp__law_take : DSp) : DTS := qSeq (dw_R5 sp__law_kind sp__law_take) (dw_T6 sp__law_kind sp__law_take)
def dw_T4 (sp__law_kind : DSp) (sp__law_take : DSp) : DTS := qSeq (dw_R4 sp__law_kind sp__law_take) (dw_T5 sp__law_kind sp__law_take)
def dw_T3 (sp__law_kind : DSp) (sp__law_take : DSp) : DTS := qSeq (dw_R3 sp__law_kind sp__law_take) (dw_T4 sp__law_kind sp__law_take)
def dw_T2 (sp__law_kind : DSp) (sp__law_take : DSp) : DTS := qSeq (dw_R2 sp__law_kind sp__law_take) (dw_T3 sp__law_kind sp__law_take)
def dw_T1 (sp__law_kind : DSp) (sp__law_take : DSp) : DTS := qSeq (dw_R1 sp__law_kind sp__law_take) (dw_T2 sp__law_kind sp__law_take)
def dw_T0 (sp__law_kind : DSp) (sp__law_take : DSp) : DTS := qSeq (dw_R0 sp__law_kind sp__law_take) (dw_T1 sp__law_kind sp__law_take)
theorem dw_cut (sp__law_kind : DSp) (sp__law_take : DSp) : qHDeed sp__law_kind sp__law_take = dw_T0 sp__law_kind sp__law_take := rfl
theorem dw_t0 (sp__law_kind : DSp) (sp__law_take : DSp) {DW : DWt} {DE : DEnds} {p : Rho} {M : Mst} : dw_T0 sp__law_kind sp__law_take DW DE p M = dw_R0 sp__law_kind sp__law_take DW { DE with nx := dw_T1 sp__law_kind sp__law_take DW DE } p M := rfl
theorem dw_t1 (sp__law_kind : DSp) (sp__law_take : DSp) {DW : DWt} {DE : DEnds} {p : Rho} {M : Mst} : dw_T1 sp__law_kind sp__law_take DW DE p M = dw_R1 sp__law_kind sp__law_take DW { DE with nx := dw_T2 sp__law_kind sp__law_take DW DE } p M := rfl
theorem dw_t2 (sp__law_kind : DSp) (sp__law_take : DSp) {DW : DWt} {DE : DEnds} {p : Rho} {M : Mst} : dw_T2 sp__law_kind sp__law_take DW DE p M = dw_R2 sp__law_kind sp__law_take DW { DE with nx := dw_T3 sp__law_kind sp__law_take DW DE } p M := rfl
theorem dw_t3 (sp__law_kind : DSp) (sp__law_take : DSp) {DW : DWt} {DE : DEnds} {p : Rho} {M : Mst} : dw_T3 sp__law_kind sp__law_take DW DE p M = dw_R3 sp__law_kind sp__law_take DW { DE with nx := dw_T4 sp__law_kind sp__law_take DW DE } p M := rfl
theorem dw_t4 (sp__law_kind : DSp) (sp__law_take : DSp) {DW : DWt} {DE : DEnds} {p : Rho} {M : Mst} : dw_T4 sp__law_kind sp__law_take DW DE p M = dw_R4 sp__law_kind sp__law_take DW { DE with nx := dw_T5 sp__law_kind sp__law_take DW DE } p M := rfl
theorem dw_t5 (sp__law_kind : DSp) (sp__law_take : DSp) {DW : DWt} {DE : DEnds} {p : Rho} {M : Mst} : dw_T5 sp__law_kind sp__law_take DW DE p M = dw_R5 sp__law_kind sp__law_take DW { DE with nx := dw_T6 sp__law_kind sp__law_take DW DE } p M := rfl
theorem dw_t6 (sp__law_kind : DSp) (sp__law_take : DSp) {DW : DWt} {DE : DEnds} {p : Rho} {M : Mst} : dw_T6 sp__law_kind sp__law_take DW DE p M = dw_R6 sp__law_kind sp__law_take DW { DE with nx := dw_T7 sp__law_kind sp__law_take DW DE } p M := rfl
theorem dw_t7 (sp__law_kind : DSp) (sp__law_take : DSp) {DW : DWt} {DE : DEnds} {p : Rho} {M : Mst} : dw_T7 sp__law_kind sp__law_take DW DE p M = dw_R7 sp__law_kind sp__law_take DW { DE with nx := dw_T8 sp__law_kind sp__law_take DW DE } p M := rfl
theorem dw_t8 (sp__law_kind : DSp) (sp__law_take : DSp) {DW : DWt} {DE : DEnds} {p : Rho} {M : Mst} : dw_T8 sp__law_kind sp__law_take DW DE p M = dw_R8 sp__law_kind sp__law_take DW { DE with nx := dw_T9 sp__law_kind sp__law_take DW DE } p M := rfl
theorem dw_t9 (sp__law_kind : DSp) (sp__law_take : DSp) {DW : DWt} {DE : DEnds} {p : Rho} {M : Mst} : dw_T9 sp__law_kind sp__law_take DW DE p M = dw_R9 sp__law_kind sp__law_take DW { DE with nx := dw_T10 sp__law_kind sp__law_take DW DE } p M := rfl
abbrev KIND6 : List Str := [PySem.Str.ofString "house", PySem.Str.ofString "car", PySem.Str.ofString "chimney", PySem.Str.ofString "grass", PySem.Str.ofString "people", PySem.Str.ofString "works"]
abbrev SORT4 : List Str := [PySem.Str.ofString "pump", PySem.Str.ofString "ladder", PySem.Str.ofString "tanker", PySem.Str.ofString "pump"]
abbrev Eng := Str × Str × Str × Int
def egD (e : Eng) : D := .tup [.str e.1, .str e.2.1, .str e.2.2.1, .int e.2.2.2]
structure EngsOk (ss : List Str) (es : List Eng) : Prop where
  nd : (es.map (·.1)).Nodup
  nm : ∀ e ∈ es, nameS e.1 = true
  so : ∀ e ∈ es, e.2.1 ∈ SORT4
  st : ∀ e ∈ es, e.2.2.1 ∈ ss
  se : ∀ e ∈ es, 1 ≤ e.2.2.2 ∧ e.2.2.2 ≤ 9
  ne : es ≠ []
  le : es.length ≤ 24
def spHKind : DSp := fun ds M Q _ => ∃ (b : Addr), ds = [.ref b] ∧ M b = some .bag ∧ ∀ z ∈ KIND6, Q (.str z) M
theorem hkind_ok (ds : List D) (M : Mst) (Q : DK) (Ed : DX → Mst → Prop) (h : upSp spHKind ds M Q Ed) : qHKind spTake (fun x _ M => Ed x M) (retE Q) (startD ["_law_bag_here"] ds) M := by
  obtain ⟨Q0, E0, ⟨b, rfl, hb, k0⟩, kq, _⟩ := h
  have k : ∀ z ∈ KIND6, Q (.str z) M := fun z hz => kq _ _ _ (Sub.refl _) (k0 z hz)
  clear kq k0
  show qHKind _ _ _ [some (.ref b)] M
  simp only [qHKind, qSeq, qAsg, qTup, qCons, qNil, qOp, qUn, qC, qCall, qVar, qLst, newL_f, qIfS, qTB, qNext, qRet, qDrop, qFor, qCB, qAug, qSl, qPart, qNoPart, gNameD, gSub_eq, dInt_i, dInt0_i, dAdd_i, dCmpI_i, List.set_cons_zero, List.set_cons_succ, List.getElem?_cons_zero, List.getElem?_cons_succ, List.append_nil, z_l0, z_l1, z_l2, z_l3, z_l4, z_l5, z_l6, z_l7, z_l8, z_l9, z_l19, z_l24, z_l25, true_and]
  refine take_call hb (by decide) (by decide) fun r a b1 => pick_t a b1 fun d hd => ?_
  obtain ⟨z, hz, rfl⟩ : ∃ z ∈ KIND6, d = .str z := by
    simp only [List.mem_cons, List.not_mem_nil, or_false] at hd
    rcases hd with rfl | rfl | rfl | rfl | rfl | rfl <;> exact ⟨_, by simp, rfl⟩
  exact k z hz
def spHEngines : DSp := fun ds M Q _ => ∃ (b : Addr) (ss : List Str), ds = [.ref b, .xtp (ss.map .str)] ∧ M b = some .bag ∧ ss ≠ [] ∧ ss.length ≤ 12 ∧ ∀ es, EngsOk ss es → Q (.tup (es.map egD)) M
theorem hengines_ok (ds : List D) (M : Mst) (Q : DK) (Ed : DX → Mst → Prop) (h : upSp spHEngines ds M Q Ed) : qHEngines spHNames spTake (fun x _ M => Ed x M) (retE Q) (startD ["_law_bag_here", "_law_stations", "_law_many", "_law_found", "_law_name", "_law_sort"] ds) M := by
  obtain ⟨Q0, E0, ⟨b, ss, rfl, hb, hs, hl, k0⟩, kq, _⟩ := h
  have k : ∀ es, EngsOk ss es → ∀ M', Sub M M' → Q (.tup (es.map egD)) M' := fun es he M' s => kq _ _ _ s (k0 es he)
  clear kq k0
  rw [en_cut, en_t0]
  show en_R0 _ _ _ _ [some (.ref b), some (.xtp (ss.map .str)), none, none, none, none] M
  simp only [en_R0, qSeq, qAsg, qTup, qCons, qNil, qOp, qUn, qC, qCall, qVar, qLst, newL_f, qIfS, qTB, qNext, qRet, qDrop, qFor, qCB, qAug, qSl, qPart, qNoPart, gNameD, gSub_eq, dInt_i, dInt0_i, dAdd_i, dCmpI_i, List.set_cons_zero, List.set_cons_succ, List.getElem?_cons_zero, List.getElem?_cons_succ, List.append_nil, z_l0, z_l1, z_l2, z_l3, z_l4, z_l5, z_l6, z_l7, z_l8, z_l9, z_l19, z_l24, z_l25, true_and]
  refine take_call hb (by decide) (by decide) fun r a b1 => pick_t a b1 fun d hd => ?_
  obtain ⟨m, m0, m1, rfl⟩ : ∃ m : Nat, 1 ≤ m ∧ m ≤ 24 ∧ d = .int (m : Int) := by
    simp only [List.mem_cons, List.not_mem_nil, or_false] at hd
    rcases hd with rfl | rfl | rfl | rfl | rfl
    · exact ⟨4, by decide, by decide, rfl⟩
    · exact ⟨8, by decide, by decide, rfl⟩
    · exact ⟨2, by decide, by decide, rfl⟩
    · exact ⟨24, by decide, by decide, rfl⟩
    · exact ⟨1, by decide, by decide, rfl⟩
  show en_T1 _ _ _ _ _ M
  rw [en_t1]
  show en_R1 _ _ _ _ _ M
  simp only [en_R1, newL_t, qSeq, qAsg, qTup, qCons, qNil, qOp, qUn, qC, qCall, qVar, qLst, newL_f, qIfS, qTB, qNext, qRet, qDrop, qFor, qCB, qAug, qSl, qPart, qNoPart, gNameD, gSub_eq, dInt_i, dInt0_i, dAdd_i, dCmpI_i, List.set_cons_zero, List.set_cons_succ, List.getElem?_cons_zero, List.getElem?_cons_succ, List.append_nil, z_l0, z_l1, z_l2, z_l3, z_l4, z_l5, z_l6, z_l7, z_l8, z_l9, z_l19, z_l24, z_l25, true_and]
  intro l hlm
  show en_T2 _ _ _ _ _ _
  rw [en_t2]
  show en_R2 _ _ _ _ _ _
  rw [en_for2]
  have hb1 : ∀ o, put M l o b = some .bag := fun o => put_keep hb hlm
  simp only [qFor, qiAny, qSeq, qAsg, qTup, qCons, qNil, qOp, qUn, qC, qCall, qVar, qLst, newL_f, qIfS, qTB, qNext, qRet, qDrop, qFor, qCB, qAug, qSl, qPart, qNoPart, gNameD, gSub_eq, dInt_i, dInt0_i, dAdd_i, dCmpI_i, List.set_cons_zero, List.set_cons_succ, List.getElem?_cons_zero, List.getElem?_cons_succ, List.append_nil, z_l0, z_l1, z_l2, z_l3, z_l4, z_l5, z_l6, z_l7, z_l8, z_l9, z_l19, z_l24, z_l25, true_and]
  refine ⟨b, m, rfl, hb1 _, by omega, fun zs lz nz hz => ?_⟩
  simp only [res_lst]
  refine loopL_inv (n := zs.length) (fun i p M' => ∃ (es : List Eng) (x4 x5 : Option D), p = [some (.ref b), some (.xtp (ss.map .str)), some (.int (m : Int)), some (.ref l), x4, x5] ∧ M' = put M l (.lst (es.map egD)) ∧ es.map (·.1) = zs.take i ∧ (∀ e ∈ es, e.2.1 ∈ SORT4 ∧ e.2.2.1 ∈ ss ∧ 1 ≤ e.2.2.2 ∧ e.2.2.2 ≤ 9)) (by rw [List.length_map]) (fun i d p M' R hd hI hR => ?_) (fun p M' hI => ?_) ⟨[], none, none, rfl, rfl, rfl, fun _ h => nomatch h⟩
  · obtain ⟨es, x4, x5, rfl, rfl, he, ho⟩ := hI
    rw [List.getElem?_map] at hd
    obtain ⟨z, hz1, rfl⟩ := Option.map_eq_some_iff.mp hd
    have hi := (List.getElem?_eq_some_iff.mp hz1).1
    refine ⟨trivial, ?_⟩
    simp only [gNameD, List.set_cons_zero, List.set_cons_succ]
    rw [eb_t0]
    show eb_R0 _ _ _ _ _ _
    simp only [eb_R0, qSeq, qAsg, qTup, qCons, qNil, qOp, qUn, qC, qCall, qVar, qLst, newL_f, qIfS, qTB, qNext, qRet, qDrop, qFor, qCB, qAug, qSl, qPart, qNoPart, gNameD, gSub_eq, dInt_i, dInt0_i, dAdd_i, dCmpI_i, List.set_cons_zero, List.set_cons_succ, List.getElem?_cons_zero, List.getElem?_cons_succ, List.append_nil, z_l0, z_l1, z_l2, z_l3, z_l4, z_l5, z_l6, z_l7, z_l8, z_l9, z_l19, z_l24, z_l25, true_and]
    refine take_call (hb1 _) (by decide) (by decide) fun r a b1 => pick_t a b1 fun d hd => ?_
    obtain ⟨so, hso, rfl⟩ : ∃ z ∈ SORT4, d = .str z := by
      simp only [List.mem_cons, List.not_mem_nil, or_false] at hd
      rcases hd with rfl | rfl | rfl | rfl <;> exact ⟨_, by simp, rfl⟩
    simp only [eb_T1, eb_R1, qBM, z_len_xtp, List.length_map, qSeq, qAsg, qTup, qCons, qNil, qOp, qUn, qC, qCall, qVar, qLst, newL_f, qIfS, qTB, qNext, qRet, qDrop, qFor, qCB, qAug, qSl, qPart, qNoPart, gNameD, gSub_eq, dInt_i, dInt0_i, dAdd_i, dCmpI_i, List.set_cons_zero, List.set_cons_succ, List.getElem?_cons_zero, List.getElem?_cons_succ, List.append_nil, z_l0, z_l1, z_l2, z_l3, z_l4, z_l5, z_l6, z_l7, z_l8, z_l9, z_l19, z_l24, z_l25, true_and]
    refine ⟨by simp [res, put_same, tyOk], ?_⟩
    have ls : 0 < ss.length := List.length_pos_iff.mpr hs
    refine take_call (hb1 _) (by omega) (by omega) fun r2 a2 b2 => ?_
    obtain ⟨st, hst, hm⟩ := atI_some (xs := ss.map D.str) a2 (by rw [List.length_map]; exact b2)
    rw [ix_x hst]
    obtain ⟨st', hst', rfl⟩ := List.mem_map.mp hm
    refine take_call (hb1 _) (by decide) (by decide) fun r3 a3 b3 => ?_
    simp only [dAdd_i, mApp, put_same, put_put]
    have le : es.length = i := by have := congrArg List.length he; simp [List.length_take] at this; omega
    refine ⟨by simp; omega, hR _ _ ⟨es ++ [(z, so, st', 1 + r3)], _, _, rfl, by simp [egD], ?_, fun e he2 => ?_⟩⟩
    · rw [List.map_append, he, List.take_add_one, hz1]; rfl
    · rcases List.mem_append.mp he2 with h | h
      · exact ho e h
      · rw [List.mem_singleton.mp h]; exact ⟨hso, hst', by show 1 ≤ 1 + r3; omega, by show 1 + r3 ≤ 9; omega⟩
  · obtain ⟨es, x4, x5, rfl, rfl, he, ho⟩ := hI
    refine ⟨trivial, ?_⟩
    rw [List.take_length] at he
    simp only [en_T3, en_R3, qSeq, qAsg, qTup, qCons, qNil, qOp, qUn, qC, qCall, qVar, qLst, newL_f, qIfS, qTB, qNext, qRet, qDrop, qFor, qCB, qAug, qSl, qPart, qNoPart, gNameD, gSub_eq, dInt_i, dInt0_i, dAdd_i, dCmpI_i, List.set_cons_zero, List.set_cons_succ, List.getElem?_cons_zero, List.getElem?_cons_succ, List.append_nil, z_l0, z_l1, z_l2, z_l3, z_l4, z_l5, z_l6, z_l7, z_l8, z_l9, z_l19, z_l24, z_l25, true_and]
    have le : es.length = m := by have := congrArg List.length he; simp at this; omega
    have hk := k es ⟨by rw [he]; exact nz, fun e h => hz _ (by rw [← he]; exact List.mem_map_of_mem h), fun e h => (ho e h).1, fun e h => (ho e h).2.1, fun e h => (ho e h).2.2, fun e => by rw [e] at le; simp at le; omega, by omega⟩ _ (Sub.put (o := .lst (es.map egD)) (Sub.refl M) hlm)
    simp [dTuple, res, put_same]
    exact hk
inductive HDeed where
  | call (p kd : Str) | again (n : Int) | make (n m : Int) | stop (n : Int) | send (e : Str) (n : Int) | there (e : Str) | back (e : Str) | home (e : Str) | off (e : Str) | on (e : Str)
  | stand (e s : Str) | lend (e s : Str) | shut (r : Int) | clear (r : Int) | nothing
  deriving DecidableEq
def HDeed.word : HDeed → Str
  | .call _ _ => PySem.Str.ofString "call" | .again _ => PySem.Str.ofString "again" | .make _ _ => PySem.Str.ofString "make" | .stop _ => PySem.Str.ofString "stop" | .send _ _ => PySem.Str.ofString "send"
  | .there _ => PySem.Str.ofString "there" | .back _ => PySem.Str.ofString "back" | .home _ => PySem.Str.ofString "home" | .off _ => PySem.Str.ofString "off" | .on _ => PySem.Str.ofString "on"
  | .stand _ _ => PySem.Str.ofString "stand" | .lend _ _ => PySem.Str.ofString "lend" | .shut _ => PySem.Str.ofString "shut" | .clear _ => PySem.Str.ofString "clear" | .nothing => PySem.Str.ofString "nothing"
def HDeed.args : HDeed → List D
  | .call p kd => [.str p, .str kd] | .again n => [.int n] | .make n m => [.int n, .int m] | .stop n => [.int n] | .send e n => [.str e, .int n]
  | .there e => [.str e] | .back e => [.str e] | .home e => [.str e] | .off e => [.str e] | .on e => [.str e]
  | .stand e s => [.str e, .str s] | .lend e s => [.str e, .str s] | .shut r => [.int r] | .clear r => [.int r] | .nothing => []
def HDeed.d (x : HDeed) : D := .tup (.str x.word :: x.args)
/-- places, roads, stations, engines that a deed may name -/
structure DeedOk (ps ss es : List Str) (rn : Nat) (x : HDeed) : Prop where
  ok : match x with
    | .call p kd => p ∈ ps ∧ kd ∈ KIND6
    | .again n => 1 ≤ n ∧ n ≤ 200
    | .make n m => (1 ≤ n ∧ n ≤ 200) ∧ 1 ≤ m ∧ m ≤ 20
    | .stop n => 1 ≤ n ∧ n ≤ 200
    | .send e n => e ∈ es ∧ 1 ≤ n ∧ n ≤ 200
    | .there e => e ∈ es
    | .back e => e ∈ es
    | .home e => e ∈ es
    | .off e => e ∈ es
    | .on e => e ∈ es
    | .stand e s => e ∈ es ∧ s ∈ ss
    | .lend e s => e ∈ es ∧ s ∈ ss
    | .shut r => 0 ≤ r ∧ r < rn
    | .clear r => 0 ≤ r ∧ r < rn
    | .nothing => True
abbrev Rd_ := Str × Str × Int × Int
def rdD (r : Rd_) : D := .tup [.str r.1, .str r.2.1, .int r.2.2.1, .int r.2.2.2]
abbrev Pc_ := Str × Int
def pcD (r : Pc_) : D := .tup [.str r.1, .int r.2]
def grT (ps : List Pc_) (rs : List Rd_) (ss : List Str) : D := .tup [.xtp (ps.map pcD), .xtp (rs.map rdD), .xtp (ss.map .str)]
def spHDeed : DSp := fun ds M Q _ => ∃ (b : Addr) (ps : List Pc_) (rs : List Rd_) (ss : List Str) (es : List Eng) (cs : List Int), ds = [.ref b, grT ps rs ss, .tup (es.map egD), .lst (cs.map .int)] ∧ M b = some .bag ∧ ps ≠ [] ∧ ss ≠ [] ∧ es ≠ [] ∧ ps.length ≤ 1000 ∧ rs.length ≤ 1000 ∧ ss.length ≤ 1000 ∧ es.length ≤ 1000 ∧ cs.length ≤ 1000 ∧ (∀ n ∈ cs, 1 ≤ n ∧ n ≤ 200) ∧
  ∀ x, DeedOk (ps.map (·.1)) ss (es.map (·.1)) rs.length x → Q x.d M
theorem hdeed_ok (ds : List D) (M : Mst) (Q : DK) (Ed : DX → Mst → Prop) (h : upSp spHDeed ds M Q Ed) : qHDeed spHKind spTake (fun x _ M => Ed x M) (retE Q) (startD ["_law_bag_here", "_law_told", "_law_engines_here", "_law_calls", "_law_places", "_law_roads", "_law_stations", "_law_name", "_law_call", "_law_way"] ds) M := by
  obtain ⟨Q0, E0, ⟨b, ps, rs, ss, es, cs, rfl, hb, p0, s0, e0, p1, r1, s1, e1, c1, hc, k0⟩, kq, _⟩ := h
  have k : ∀ x, DeedOk (ps.map (·.1)) ss (es.map (·.1)) rs.length x → Q x.d M := fun x hx => kq _ _ _ (Sub.refl _) (k0 x hx)
  clear kq k0
  have lp : 0 < ps.length := List.length_pos_iff.mpr p0
  have ls : 0 < ss.length := List.length_pos_iff.mpr s0
  have le : 0 < es.length := List.length_pos_iff.mpr e0
  rw [dw_cut, dw_t0]
  show dw_R0 _ _ _ _ [some (.ref b), some (grT ps rs ss), some (.tup (es.map egD)), some (.lst (cs.map .int)), none, none, none, none, none, none] M
  simp only [dw_R0, grT, gTupD, gConsD, gNilD, res_tup, List.length_cons, List.length_nil, true_and, qSeq, qAsg, qTup, qCons, qNil, qOp, qUn, qC, qCall, qVar, qLst, newL_f, qIfS, qTB, qNext, qRet, qDrop, qFor, qCB, qAug, qSl, qPart, qNoPart, gNameD, gSub_eq, dInt_i, dInt0_i, dAdd_i, dCmpI_i, List.set_cons_zero, List.set_cons_succ, List.getElem?_cons_zero, List.getElem?_cons_succ, List.append_nil, z_l0, z_l1, z_l2, z_l3, z_l4, z_l5, z_l6, z_l7, z_l8, z_l9, z_l19, z_l24, z_l25, true_and]
  show dw_T1 _ _ _ _ _ _
  rw [dw_t1]
  show dw_R1 _ _ _ _ _ _
  simp only [dw_R1, z_len_tup, List.length_map, qSeq, qAsg, qTup, qCons, qNil, qOp, qUn, qC, qCall, qVar, qLst, newL_f, qIfS, qTB, qNext, qRet, qDrop, qFor, qCB, qAug, qSl, qPart, qNoPart, gNameD, gSub_eq, dInt_i, dInt0_i, dAdd_i, dCmpI_i, List.set_cons_zero, List.set_cons_succ, List.getElem?_cons_zero, List.getElem?_cons_succ, List.append_nil, z_l0, z_l1, z_l2, z_l3, z_l4, z_l5, z_l6, z_l7, z_l8, z_l9, z_l19, z_l24, z_l25, true_and]
  refine take_call hb (by omega) (by omega) fun q1 a1 b1 => pick_t a1 (by rw [List.length_map]; exact b1) fun d hd => ?_
  obtain ⟨e, he, rfl⟩ := List.mem_map.mp hd
  have he1 : e.1 ∈ es.map (·.1) := List.mem_map_of_mem he
  simp only [egD, z_ix_t0]
  show dw_T2 _ _ _ _ _ _
  rw [dw_t2]
  show dw_R2 _ _ _ _ _ _
  simp only [dw_R2, qSeq, qAsg, qTup, qCons, qNil, qOp, qUn, qC, qCall, qVar, qLst, newL_f, qIfS, qTB, qNext, qRet, qDrop, qFor, qCB, qAug, qSl, qPart, qNoPart, gNameD, gSub_eq, dInt_i, dInt0_i, dAdd_i, dCmpI_i, List.set_cons_zero, List.set_cons_succ, List.getElem?_cons_zero, List.getElem?_cons_succ, List.append_nil, z_l0, z_l1, z_l2, z_l3, z_l4, z_l5, z_l6, z_l7, z_l8, z_l9, z_l19, z_l24, z_l25, true_and]
  refine take_call hb (by decide) (by decide) fun q2 a2 b2 => ?_
  simp only [dAdd_i]
  have tail : ∀ n : Int, 1 ≤ n → n ≤ 200 → dw_T4 spHKind spTake (fun x _ M => Ed x M) (retE Q) [some (.ref b), some (grT ps rs ss), some (.tup (es.map egD)), some (.lst (cs.map .int)), some (.xtp (ps.map pcD)), some (.xtp (rs.map rdD)), some (.xtp (ss.map .str)), some (.str e.1), some (.int n), none] M := fun n n0 n1 => by
    rw [dw_t4]
    show dw_R4 _ _ _ _ _ _
    simp only [dw_R4, qSeq, qAsg, qTup, qCons, qNil, qOp, qUn, qC, qCall, qVar, qLst, newL_f, qIfS, qTB, qNext, qRet, qDrop, qFor, qCB, qAug, qSl, qPart, qNoPart, gNameD, gSub_eq, dInt_i, dInt0_i, dAdd_i, dCmpI_i, List.set_cons_zero, List.set_cons_succ, List.getElem?_cons_zero, List.getElem?_cons_succ, List.append_nil, z_l0, z_l1, z_l2, z_l3, z_l4, z_l5, z_l6, z_l7, z_l8, z_l9, z_l19, z_l24, z_l25, true_and]
    refine take_call hb (by decide) (by decide) fun w w0 w1 => ?_
    show dw_T5 _ _ _ _ _ _
    rw [dw_t5]
    show dw_R5 _ _ _ _ _ _
    simp only [dw_R5, z_len_xtp, List.length_map, qSeq, qAsg, qTup, qCons, qNil, qOp, qUn, qC, qCall, qVar, qLst, newL_f, qIfS, qTB, qNext, qRet, qDrop, qFor, qCB, qAug, qSl, qPart, qNoPart, gNameD, gSub_eq, dInt_i, dInt0_i, dAdd_i, dCmpI_i, List.set_cons_zero, List.set_cons_succ, List.getElem?_cons_zero, List.getElem?_cons_succ, List.append_nil, z_l0, z_l1, z_l2, z_l3, z_l4, z_l5, z_l6, z_l7, z_l8, z_l9, z_l19, z_l24, z_l25, true_and]
    by_cases c : w < 3
    · rw [decide_eq_true c]
      simp only [if_true]
      refine take_call hb (by omega) (by omega) fun q3 a3 b3 => pick_x a3 (by rw [List.length_map]; exact b3) fun d hd => ?_
      obtain ⟨pl, hpl, rfl⟩ := List.mem_map.mp hd
      simp only [pcD, z_ix_t0]
      exact ⟨b, rfl, hb, fun z hz => k (.call pl.1 z) ⟨List.mem_map_of_mem hpl, hz⟩⟩
    rw [decide_eq_false c]
    simp only [Bool.false_eq_true, if_false]
    show dw_T6 _ _ _ _ _ _
    rw [dw_t6]
    show dw_R6 _ _ _ _ _ _
    simp only [dw_R6, qSeq, qAsg, qTup, qCons, qNil, qOp, qUn, qC, qCall, qVar, qLst, newL_f, qIfS, qTB, qNext, qRet, qDrop, qFor, qCB, qAug, qSl, qPart, qNoPart, gNameD, gSub_eq, dInt_i, dInt0_i, dAdd_i, dCmpI_i, List.set_cons_zero, List.set_cons_succ, List.getElem?_cons_zero, List.getElem?_cons_succ, List.append_nil, z_l0, z_l1, z_l2, z_l3, z_l4, z_l5, z_l6, z_l7, z_l8, z_l9, z_l19, z_l24, z_l25, true_and]
    by_cases c2 : w < 6
    · rw [decide_eq_true c2]
      simp only [if_true]
      exact k (.send e.1 n) ⟨he1, n0, n1⟩
    rw [decide_eq_false c2]
    simp only [Bool.false_eq_true, if_false]
    show dw_T7 _ _ _ _ _ _
    rw [dw_t7]
    show dw_R7 _ _ _ _ _ _
    simp only [dw_R7, qSeq, qAsg, qTup, qCons, qNil, qOp, qUn, qC, qCall, qVar, qLst, newL_f, qIfS, qTB, qNext, qRet, qDrop, qFor, qCB, qAug, qSl, qPart, qNoPart, gNameD, gSub_eq, dInt_i, dInt0_i, dAdd_i, dCmpI_i, List.set_cons_zero, List.set_cons_succ, List.getElem?_cons_zero, List.getElem?_cons_succ, List.append_nil, z_l0, z_l1, z_l2, z_l3, z_l4, z_l5, z_l6, z_l7, z_l8, z_l9, z_l19, z_l24, z_l25, true_and]
    by_cases c3 : w < 11
    · rw [decide_eq_true c3]
      simp only [if_true]
      have : w = 6 ∨ w = 7 ∨ w = 8 ∨ w = 9 ∨ w = 10 := by omega
      rcases this with rfl | rfl | rfl | rfl | rfl
      · exact k (.there e.1) ⟨he1⟩
      · exact k (.back e.1) ⟨he1⟩
      · exact k (.home e.1) ⟨he1⟩
      · exact k (.off e.1) ⟨he1⟩
      · exact k (.on e.1) ⟨he1⟩
    rw [decide_eq_false c3]
    simp only [Bool.false_eq_true, if_false]
    show dw_T8 _ _ _ _ _ _
    rw [dw_t8]
    show dw_R8 _ _ _ _ _ _
    simp only [dw_R8, z_len_xtp, List.length_map, qSeq, qAsg, qTup, qCons, qNil, qOp, qUn, qC, qCall, qVar, qLst, newL_f, qIfS, qTB, qNext, qRet, qDrop, qFor, qCB, qAug, qSl, qPart, qNoPart, gNameD, gSub_eq, dInt_i, dInt0_i, dAdd_i, dCmpI_i, List.set_cons_zero, List.set_cons_succ, List.getElem?_cons_zero, List.getElem?_cons_succ, List.append_nil, z_l0, z_l1, z_l2, z_l3, z_l4, z_l5, z_l6, z_l7, z_l8, z_l9, z_l19, z_l24, z_l25, true_and]
    by_cases c4 : w < 13
    · rw [decide_eq_true c4]
      simp only [if_true]
      have : w = 11 ∨ w = 12 := by omega
      rcases this with rfl | rfl
      · rw [show (11 - 11 : Int) = 0 from rfl, z_ix_t0]
        refine take_call hb (by omega) (by omega) fun q3 a3 b3 => pick_x a3 (by rw [List.length_map]; exact b3) fun d hd => ?_
        obtain ⟨st, hst, rfl⟩ := List.mem_map.mp hd
        exact k (.stand e.1 st) ⟨he1, hst⟩
      · rw [show (12 - 11 : Int) = 1 from rfl, z_ix_t1]
        refine take_call hb (by omega) (by omega) fun q3 a3 b3 => pick_x a3 (by rw [List.length_map]; exact b3) fun d hd => ?_
        obtain ⟨st, hst, rfl⟩ := List.mem_map.mp hd
        exact k (.lend e.1 st) ⟨he1, hst⟩
    rw [decide_eq_false c4]
    simp only [Bool.false_eq_true, if_false]
    show dw_T9 _ _ _ _ _ _
    rw [dw_t9]
    show dw_R9 _ _ _ _ _ _
    simp only [dw_R9, qAnd, z_len_xtp, List.length_map, qSeq, qAsg, qTup, qCons, qNil, qOp, qUn, qC, qCall, qVar, qLst, newL_f, qIfS, qTB, qNext, qRet, qDrop, qFor, qCB, qAug, qSl, qPart, qNoPart, gNameD, gSub_eq, dInt_i, dInt0_i, dAdd_i, dCmpI_i, List.set_cons_zero, List.set_cons_succ, List.getElem?_cons_zero, List.getElem?_cons_succ, List.append_nil, z_l0, z_l1, z_l2, z_l3, z_l4, z_l5, z_l6, z_l7, z_l8, z_l9, z_l19, z_l24, z_l25, true_and]
    have last : dw_T10 spHKind spTake (fun x _ M => Ed x M) (retE Q) [some (.ref b), some (grT ps rs ss), some (.tup (es.map egD)), some (.lst (cs.map .int)), some (.xtp (ps.map pcD)), some (.xtp (rs.map rdD)), some (.xtp (ss.map .str)), some (.str e.1), some (.int n), some (.int w)] M := by
      simp only [dw_T10, dw_R10, qSeq, qAsg, qTup, qCons, qNil, qOp, qUn, qC, qCall, qVar, qLst, newL_f, qIfS, qTB, qNext, qRet, qDrop, qFor, qCB, qAug, qSl, qPart, qNoPart, gNameD, gSub_eq, dInt_i, dInt0_i, dAdd_i, dCmpI_i, List.set_cons_zero, List.set_cons_succ, List.getElem?_cons_zero, List.getElem?_cons_succ, List.append_nil, z_l0, z_l1, z_l2, z_l3, z_l4, z_l5, z_l6, z_l7, z_l8, z_l9, z_l19, z_l24, z_l25, true_and]
      refine take_call hb (by decide) (by decide) fun q3 a3 b3 => ?_
      simp only [dAdd_i, dInt_i]
      refine ⟨by decide, ?_⟩
      have hw : w % 4 = 0 ∨ w % 4 = 1 ∨ w % 4 = 2 ∨ w % 4 = 3 := by omega
      rcases hw with e | e | e | e <;> rw [e]
      · exact k (.again n) ⟨n0, n1⟩
      · exact k (.make n (1 + q3)) ⟨⟨n0, n1⟩, by omega, by omega⟩
      · exact k (.stop n) ⟨n0, n1⟩
      · exact k .nothing ⟨trivial⟩
    by_cases c5 : w < 15
    · rw [decide_eq_true c5]
      simp only [if_true]
      have lt0 : ∀ R, dEq true (.xtp (rs.map rdD)) (.tup []) M R = R (.bl (xor true (rs.isEmpty))) M := fun R => by
        have e1 : deq (.tup (rs.map rdD)) (.tup []) = rs.isEmpty := by
          unfold deq
          cases rs <;> simp [pyd, pydL, PyData.eqv, PyData.eqvAll]
        have d1 : isData (.tup (rs.map rdD)) = true := by
          show isDataL (rs.map rdD) = true
          rw [isDataL_all, List.all_map, List.all_eq_true]; intro x _; rfl
        unfold dEq
        rw [res_xtp, res_tup, e1]
        have h3 : min (dep (.tup (rs.map rdD))) (dep (.tup [])) ≤ 64 := Nat.le_trans (Nat.min_le_right _ _) (Nat.le_of_ble_eq_true rfl)
        simp [d1, h3, show isData (.tup []) = true from rfl]
      rw [lt0]
      cases hr : rs with
      | nil => subst hr; exact last
      | cons y ys =>
        rw [← hr]
        have lr : 0 < rs.length := by rw [hr]; simp
        have : w = 13 ∨ w = 14 := by omega
        rw [show rs.isEmpty = false by rw [hr]; rfl]
        simp only [Bool.xor_false, if_true]
        rcases this with rfl | rfl
        · rw [show (13 - 13 : Int) = 0 from rfl, z_ix_t0]
          exact take_call hb (by omega) (by omega) fun q3 a3 b3 => k (.shut q3) ⟨a3, b3⟩
        · rw [show (14 - 13 : Int) = 1 from rfl, z_ix_t1]
          exact take_call hb (by omega) (by omega) fun q3 a3 b3 => k (.clear q3) ⟨a3, b3⟩
    · rw [decide_eq_false c5]
      exact last
  show dw_T3 _ _ _ _ _ _
  rw [dw_t3]
  show dw_R3 _ _ _ _ _ _
  simp only [dw_R3, qAnd, len_l', List.length_map, qSeq, qAsg, qTup, qCons, qNil, qOp, qUn, qC, qCall, qVar, qLst, newL_f, qIfS, qTB, qNext, qRet, qDrop, qFor, qCB, qAug, qSl, qPart, qNoPart, gNameD, gSub_eq, dInt_i, dInt0_i, dAdd_i, dCmpI_i, List.set_cons_zero, List.set_cons_succ, List.getElem?_cons_zero, List.getElem?_cons_succ, List.append_nil, z_l0, z_l1, z_l2, z_l3, z_l4, z_l5, z_l6, z_l7, z_l8, z_l9, z_l19, z_l24, z_l25, true_and]
  rw [eq_nil (x := .lst (cs.map .int)) res_lst (data_ints cs)]
  cases cs with
  | nil => exact tail (1 + q2) (by omega) (by omega)
  | cons y ys =>
    simp only [List.map_cons, List.isEmpty_cons, Bool.true_xor, Bool.not_false, if_true, qSeq, qAsg, qTup, qCons, qNil, qOp, qUn, qC, qCall, qVar, qLst, newL_f, qIfS, qTB, qNext, qRet, qDrop, qFor, qCB, qAug, qSl, qPart, qNoPart, gNameD, gSub_eq, dInt_i, dInt0_i, dAdd_i, dCmpI_i, List.set_cons_zero, List.set_cons_succ, List.getElem?_cons_zero, List.getElem?_cons_succ, List.append_nil, z_l0, z_l1, z_l2, z_l3, z_l4, z_l5, z_l6, z_l7, z_l8, z_l9, z_l19, z_l24, z_l25, true_and]
    refine take_call hb (by decide) (by decide) fun q3 a3 b3 => ?_
    simp only [dCmpI_i]
    by_cases c : 0 < q3
    · rw [decide_eq_true c]
      simp only [if_true, qSeq, qAsg, qTup, qCons, qNil, qOp, qUn, qC, qCall, qVar, qLst, newL_f, qIfS, qTB, qNext, qRet, qDrop, qFor, qCB, qAug, qSl, qPart, qNoPart, gNameD, gSub_eq, dInt_i, dInt0_i, dAdd_i, dCmpI_i, List.set_cons_zero, List.set_cons_succ, List.getElem?_cons_zero, List.getElem?_cons_succ, List.append_nil, z_l0, z_l1, z_l2, z_l3, z_l4, z_l5, z_l6, z_l7, z_l8, z_l9, z_l19, z_l24, z_l25, true_and]
      refine take_call hb (by simp) (by simp at c1 ⊢; omega) fun q4 a4 b4 => pick_l a4 (by simpa using b4) fun d hd => ?_
      rw [← List.map_cons] at hd
      obtain ⟨n, hn, rfl⟩ := List.mem_map.mp hd
      exact tail n (hc n hn).1 (hc n hn).2
    · rw [decide_eq_false c]
      exact tail (1 + q2) (by omega) (by omega)
end DL
namespace DL
open PySem L2 Tx20 Tx21
def qHGround (sp__law_names : DSp) (sp__law_take : DSp) : DTS :=
  (qSeq (qAsg (qOp dIx (qTup (qCons (qC (.int 6)) (qCons (qC (.int 3)) (qCons (qC (.int 12)) (qCons (qC (.int 1)) (qCons (qC (.int 40)) (qCons (qC (.int 8)) qNil))))))) (qCall sp__law_take [] (qCons (qVar 0) (qCons (qC (.int 6)) qNil)))) (gNameD 1))
  (qSeq (qAsg (qCall sp__law_names [] (qCons (qVar 0) (qCons (qVar 1) qNil))) (gNameD 2))
  (qSeq (qAsg (qCB dTupX (qCons (qLc false (qiAny (qVar 2)) (gNameD 13) qYes (qTup (qCons (qVar 13) (qCons (qOp (dAdd false) (qC (.int 1)) (qCall sp__law_take [] (qCons (qVar 0) (qCons (qC (.int 4)) qNil)))) qNil))) [13]) qNil)) (gNameD 3))
  (qSeq (qAsg (qOp dIx (qTup (qCons (qC (.int 2)) (qCons (qC (.int 5)) (qCons (qC (.int 60)) qNil)))) (qCall sp__law_take [] (qCons (qVar 0) (qCons (qC (.int 3)) qNil)))) (gNameD 4))
  (qSeq (qAsg (qLst true qNil) (gNameD 5))
  (qSeq (qFor (qiRng1 (qCons (qOp (dAdd false) (qOp (dInt0 fun i j => i - j) (qVar 1) (qC (.int 1))) (qCall sp__law_take [] (qCons (qVar 0) (qCons (qOp (dAdd false) (qC (.int 1)) (qCB dMin2 (qCons (qC (.int 40)) (qCons (qVar 1) qNil)))) qNil)))) qNil)) (gNameD 6)
  (qSeq (qPar 7 8 (qCons (qOp (dInt (fun _ j => 0 < j) fun i j => i % j) (qVar 6) (qVar 1)) (qCons (qOp (dInt (fun _ j => 0 < j) fun i j => i % j) (qOp (dAdd false) (qVar 6) (qC (.int 1))) (qVar 1)) qNil)))
  (qSeq (qIfS (qTB (qOp (dCmpI fun i j => decide (j < i)) (qCall sp__law_take [] (qCons (qVar 0) (qCons (qC (.int 3)) qNil))) (qC (.int 0))))
  (qAsg (qCall sp__law_take [] (qCons (qVar 0) (qCons (qVar 1) qNil))) (gNameD 7))
  qNext)
  (qIfS (qAnd (qTB (qOp (dEq true) (qVar 7) (qVar 8))) (qAnd (qTB (qOp (dInD true) (qTup (qCons (qVar 7) (qCons (qVar 8) qNil))) (qVar 5))) (qTB (qOp (dInD true) (qTup (qCons (qVar 8) (qCons (qVar 7) qNil))) (qVar 5)))))
  (qDrop (qBM "list" mApp (qVar 5) (qCons (qTup (qCons (qVar 7) (qCons (qVar 8) qNil))) qNil)))
  qNext))))
  (qSeq (qAsg (qLst true qNil) (gNameD 9))
  (qSeq (qFor (qiAny (qVar 5)) (gTupD 2 (gConsD (gNameD 7) (gConsD (gNameD 8) gNilD)))
  (qSeq (qAsg (qOp (dMul false) (qCall sp__law_take [] (qCons (qVar 0) (qCons (qC (.int 61)) qNil))) (qCB dIntX (qCons (qOp (dEq false) (qCall sp__law_take [] (qCons (qVar 0) (qCons (qC (.int 4)) qNil))) (qC (.int 0))) qNil))) (gNameD 10))
  (qDrop (qBM "list" mApp (qVar 9) (qCons (qTup (qCons (qOp dIx (qVar 2) (qVar 7)) (qCons (qOp dIx (qVar 2) (qVar 8)) (qCons (qOp (dAdd false) (qC (.int 1)) (qCall sp__law_take [] (qCons (qVar 0) (qCons (qVar 4) qNil)))) (qCons (qVar 10) qNil))))) qNil)))))
  (qSeq (qAsg (qLst true qNil) (gNameD 11))
  (qSeq (qFor (qiRng1 (qCons (qOp (dAdd false) (qC (.int 1)) (qCall sp__law_take [] (qCons (qVar 0) (qCons (qCB dMin2 (qCons (qC (.int 12)) (qCons (qVar 1) qNil))) qNil)))) qNil)) (gNameD 6)
  (qSeq (qAsg (qOp dIx (qVar 2) (qCall sp__law_take [] (qCons (qVar 0) (qCons (qVar 1) qNil)))) (gNameD 12))
  (qIfS (qTB (qOp (dIn true) (qVar 12) (qVar 11)))
  (qDrop (qBM "list" mApp (qVar 11) (qCons (qVar 12) qNil)))
  qNext)))
  (qRet (qTup (qCons (qVar 3) (qCons (qCB dTupX (qCons (qVar 9) qNil)) (qCons (qCB dTupX (qCons (qVar 11) qNil)) qNil)))))))))))))))
def gw_R0 (sp__law_names : DSp) (sp__law_take : DSp) : DTS := (qAsg (qOp dIx (qTup (qCons (qC (.int 6)) (qCons (qC (.int 3)) (qCons (qC (.int 12)) (qCons (qC (.int 1)) (qCons (qC (.int 40)) (qCons (qC (.int 8)) qNil))))))) (qCall sp__law_take [] (qCons (qVar 0) (qCons (qC (.int 6)) qNil)))) (gNameD 1))
def gw_R1 (sp__law_names : DSp) (sp__law_take : DSp) : DTS := (qAsg (qCall sp__law_names [] (qCons (qVar 0) (qCons (qVar 1) qNil))) (gNameD 2))
def gw_R2 (sp__law_names : DSp) (sp__law_take : DSp) : DTS := (qAsg (qCB dTupX (qCons (qLc false (qiAny (qVar 2)) (gNameD 13) qYes (qTup (qCons (qVar 13) (qCons (qOp (dAdd false) (qC (.int 1)) (qCall sp__law_take [] (qCons (qVar 0) (qCons (qC (.int 4)) qNil)))) qNil))) [13]) qNil)) (gNameD 3))
def gw_R3 (sp__law_names : DSp) (sp__law_take : DSp) : DTS := (qAsg (qOp dIx (qTup (qCons (qC (.int 2)) (qCons (qC (.int 5)) (qCons (qC (.int 60)) qNil)))) (qCall sp__law_take [] (qCons (qVar 0) (qCons (qC (.int 3)) qNil)))) (gNameD 4))
def gw_R4 (sp__law_names : DSp) (sp__law_take : DSp) : DTS := (qAsg (qLst true qNil) (gNameD 5))
def gw_R5 (sp__law_names : DSp) (sp__law_take : DSp) : DTS := (qFor (qiRng1 (qCons (qOp (dAdd false) (qOp (dInt0 fun i j => i - j) (qVar 1) (qC (.int 1))) (qCall sp__law_take [] (qCons (qVar 0) (qCons (qOp (dAdd false) (qC (.int 1)) (qCB dMin2 (qCons (qC (.int 40)) (qCons (qVar 1) qNil)))) qNil)))) qNil)) (gNameD 6) (qSeq (qPar 7 8 (qCons (qOp (dInt (fun _ j => 0 < j) fun i j => i % j) (qVar 6) (qVar 1)) (qCons (qOp (dInt (fun _ j => 0 < j) fun i j => i % j) (qOp (dAdd false) (qVar 6) (qC (.int 1))) (qVar 1)) qNil))) (qSeq (qIfS (qTB (qOp (dCmpI fun i j => decide (j < i)) (qCall sp__law_take [] (qCons (qVar 0) (qCons (qC (.int 3)) qNil))) (qC (.int 0)))) (qAsg (qCall sp__law_take [] (qCons (qVar 0) (qCons (qVar 1) qNil))) (gNameD 7)) qNext) (qIfS (qAnd (qTB (qOp (dEq true) (qVar 7) (qVar 8))) (qAnd (qTB (qOp (dInD true) (qTup (qCons (qVar 7) (qCons (qVar 8) qNil))) (qVar 5))) (qTB (qOp (dInD true) (qTup (qCons (qVar 8) (qCons (qVar 7) qNil))) (qVar 5))))) (qDrop (qBM "list" mApp (qVar 5) (qCons (qTup (qCons (qVar 7) (qCons (qVar 8) qNil))) qNil))) qNext))))
def gw_R6 (sp__law_names : DSp) (sp__law_take : DSp) : DTS := (qAsg (qLst true qNil) (gNameD 9))
def gw_R7 (sp__law_names : DSp) (sp__law_take : DSp) : DTS := (qFor (qiAny (qVar 5)) (gTupD 2 (gConsD (gNameD 7) (gConsD (gNameD 8) gNilD))) (qSeq (qAsg (qOp (dMul false) (qCall sp__law_take [] (qCons (qVar 0) (qCons (qC (.int 61)) qNil))) (qCB dIntX (qCons (qOp (dEq false) (qCall sp__law_take [] (qCons (qVar 0) (qCons (qC (.int 4)) qNil))) (qC (.int 0))) qNil))) (gNameD 10)) (qDrop (qBM "list" mApp (qVar 9) (qCons (qTup (qCons (qOp dIx (qVar 2) (qVar 7)) (qCons (qOp dIx (qVar 2) (qVar 8)) (qCons (qOp (dAdd false) (qC (.int 1)) (qCall sp__law_take [] (qCons (qVar 0) (qCons (qVar 4) qNil)))) (qCons (qVar 10) qNil))))) qNil)))))
def gw_R8 (sp__law_names : DSp) (sp__law_take : DSp) : DTS := (qAsg (qLst true qNil) (gNameD 11))
def gw_R9 (sp__law_names : DSp) (sp__law_take : DSp) : DTS := (qFor (qiRng1 (qCons (qOp (dAdd false) (qC (.int 1)) (qCall sp__law_take [] (qCons (qVar 0) (qCons (qCB dMin2 (qCons (qC (.int 12)) (qCons (qVar 1) qNil))) qNil)))) qNil)) (gNameD 6) (qSeq (qAsg (qOp dIx (qVar 2) (qCall sp__law_take [] (qCons (qVar 0) (qCons (qVar 1) qNil)))) (gNameD 12)) (qIfS (qTB (qOp (dIn true) (qVar 12) (qVar 11))) (qDrop (qBM "list" mApp (qVar 11) (qCons (qVar 12) qNil))) qNext)))
def gw_R10 (sp__law_names : DSp) (sp__law_take : DSp) : DTS := (qRet (qTup (qCons (qVar 3) (qCons (qCB dTupX (qCons (qVar 9) qNil)) (qCons (qCB dTupX (qCons (qVar 11) qNil)) qNil)))))
def gw_T10 (sp__law_names : DSp) (sp__law_take : DSp) : DTS := gw_R10 sp__law_names sp__law_take
def gw_T9 (sp__law_names : DSp) (sp__law_take : DSp) : DTS := qSeq (gw_R9 sp__law_names sp__law_take) (gw_T10 sp__law_names sp__law_take)
def gw_T8 (sp__law_names : DSp) (sp__law_take : DSp) : DTS := qSeq (gw_R8 sp__law_names sp__law_take) (gw_T9 sp__law_names sp__law_take)
def gw_T7 (sp__law_names : DSp) (sp__law_take : DSp) : DTS := qSeq (gw_R7 sp__law_names sp__law_take) (gw_T8 sp__law_names sp__law_take)
def gw_T6 (sp__law_names : DSp) (sp__law_take : DSp) : DTS := qSeq (gw_R6 sp__law_names sp__law_take) (gw_T7 sp__law_names sp__law_take)
def gw_T5 (sp__law_names : DSp) (sp__law_take : DSp) : DTS := qSeq (gw_R5 sp__law_names sp__law_take) (gw_T6 sp__law_names sp__law_take)
def gw_T4 (sp__law_names : DSp) (sp__law_take : DSp) : DTS := qSeq (gw_R4 sp__law_names sp__law_take) (gw_T5 sp__law_names sp__law_take)
def gw_T3 (sp__law_names : DSp) (sp__law_take : DSp) : DTS := qSeq (gw_R3 sp__law_names sp__law_take) (gw_T4 sp__law_names sp__law_take)
def gw_T2 (sp__law_names : DSp) (sp__law_take : DSp) : DTS := qSeq (gw_R2 sp__law_names sp__law_take) (gw_T3 sp__law_names sp__law_take)
def gw_T1 (sp__law_names : DSp) (sp__law_take : DSp) : DTS := qSeq (gw_R1 sp__law_names sp__law_take) (gw_T2 sp__law_names sp__law_take)
def gw_T0 (sp__law_names : DSp) (sp__law_take : DSp) : DTS := qSeq (gw_R0 sp__law_names sp__law_take) (gw_T1 sp__law_names sp__law_take)
theorem gw_cut (sp__law_names : DSp) (sp__law_take : DSp) : qHGround sp__law_names sp__law_take = gw_T0 sp__law_names sp__law_take := rfl
theorem gw_t0 (sp__law_names : DSp) (sp__law_take : DSp) {DW : DWt} {DE : DEnds} {p : Rho} {M : Mst} : gw_T0 sp__law_names sp__law_take DW DE p M = gw_R0 sp__law_names sp__law_take DW { DE with nx := gw_T1 sp__law_names sp__law_take DW DE } p M := rfl
theorem gw_t1 (sp__law_names : DSp) (sp__law_take : DSp) {DW : DWt} {DE : DEnds} {p : Rho} {M : Mst} : gw_T1 sp__law_names sp__law_take DW DE p M = gw_R1 sp__law_names sp__law_take DW { DE with nx := gw_T2 sp__law_names sp__law_take DW DE } p M := rfl
theorem gw_t2 (sp__law_names : DSp) (sp__law_take : DSp) {DW : DWt} {DE : DEnds} {p : Rho} {M : Mst} : gw_T2 sp__law_names sp__law_take DW DE p M = gw_R2 sp__law_names sp__law_take DW { DE with nx := gw_T3 sp__law_names sp__law_take DW DE } p M := rfl
theorem gw_t3 (sp__law_names : DSp) (sp__law_take : DSp) {DW : DWt} {DE : DEnds} {p : Rho} {M : Mst} : gw_T3 sp__law_names sp__law_take DW DE p M = gw_R3 sp__law_names sp__law_take DW { DE with nx := gw_T4 sp__law_names sp__law_take DW DE } p M := rfl
theorem gw_t4 (sp__law_names : DSp) (sp__law_take : DSp) {DW : DWt} {DE : DEnds} {p : Rho} {M : Mst} : gw_T4 sp__law_names sp__law_take DW DE p M = gw_R4 sp__law_names sp__law_take DW { DE with nx := gw_T5 sp__law_names sp__law_take DW DE } p M := rfl
theorem gw_t5 (sp__law_names : DSp) (sp__law_take : DSp) {DW : DWt} {DE : DEnds} {p : Rho} {M : Mst} : gw_T5 sp__law_names sp__law_take DW DE p M = gw_R5 sp__law_names sp__law_take DW { DE with nx := gw_T6 sp__law_names sp__law_take DW DE } p M := rfl
theorem gw_t6 (sp__law_names : DSp) (sp__law_take : DSp) {DW : DWt} {DE : DEnds} {p : Rho} {M : Mst} : gw_T6 sp__law_names sp__law_take DW DE p M = gw_R6 sp__law_names sp__law_take DW { DE with nx := gw_T7 sp__law_names sp__law_take DW DE } p M := rfl
theorem gw_t7 (sp__law_names : DSp) (sp__law_take : DSp) {DW : DWt} {DE : DEnds} {p : Rho} {M : Mst} : gw_T7 sp__law_names sp__law_take DW DE p M = gw_R7 sp__law_names sp__law_take DW { DE with nx := gw_T8 sp__law_names sp__law_take DW DE } p M := rfl
theorem gw_t8 (sp__law_names : DSp) (sp__law_take : DSp) {DW : DWt} {DE : DEnds} {p : Rho} {M : Mst} : gw_T8 sp__law_names sp__law_take DW DE p M = gw_R8 sp__law_names sp__law_take DW { DE with nx := gw_T9 sp__law_names sp__law_take DW DE } p M := rfl
theorem gw_t9 (sp__law_names : DSp) (sp__law_take : DSp) {DW : DWt} {DE : DEnds} {p : Rho} {M : Mst} : gw_T9 sp__law_names sp__law_take DW DE p M = gw_R9 sp__law_names sp__law_take DW { DE with nx := gw_T10 sp__law_names sp__law_take DW DE } p M := rfl
def ga_R0 (sp__law_names : DSp) (sp__law_take : DSp) : DTS := (qPar 7 8 (qCons (qOp (dInt (fun _ j => 0 < j) fun i j => i % j) (qVar 6) (qVar 1)) (qCons (qOp (dInt (fun _ j => 0 < j) fun i j => i % j) (qOp (dAdd false) (qVar 6) (qC (.int 1))) (qVar 1)) qNil)))
def ga_R1 (sp__law_names : DSp) (sp__law_take : DSp) : DTS := (qIfS (qTB (qOp (dCmpI fun i j => decide (j < i)) (qCall sp__law_take [] (qCons (qVar 0) (qCons (qC (.int 3)) qNil))) (qC (.int 0)))) (qAsg (qCall sp__law_take [] (qCons (qVar 0) (qCons (qVar 1) qNil))) (gNameD 7)) qNext)
def ga_R2 (sp__law_names : DSp) (sp__law_take : DSp) : DTS := (qIfS (qAnd (qTB (qOp (dEq true) (qVar 7) (qVar 8))) (qAnd (qTB (qOp (dInD true) (qTup (qCons (qVar 7) (qCons (qVar 8) qNil))) (qVar 5))) (qTB (qOp (dInD true) (qTup (qCons (qVar 8) (qCons (qVar 7) qNil))) (qVar 5))))) (qDrop (qBM "list" mApp (qVar 5) (qCons (qTup (qCons (qVar 7) (qCons (qVar 8) qNil))) qNil))) qNext)
def ga_T2 (sp__law_names : DSp) (sp__law_take : DSp) : DTS := ga_R2 sp__law_names sp__law_take
def ga_T1 (sp__law_names : DSp) (sp__law_take : DSp) : DTS := qSeq (ga_R1 sp__law_names sp__law_take) (ga_T2 sp__law_names sp__law_take)
def ga_T0 (sp__law_names : DSp) (sp__law_take : DSp) : DTS := qSeq (ga_R0 sp__law_names sp__law_take) (ga_T1 sp__law_names sp__law_take)
theorem gw_for5 (sp__law_names : DSp) (sp__law_take : DSp) : gw_R5 sp__law_names sp__law_take = qFor (qiRng1 (qCons (qOp (dAdd false) (qOp (dInt0 fun i j => i - j) (qVar 1) (qC (.int 1))) (qCall sp__law_take [] (qCons (qVar 0) (qCons (qOp (dAdd false) (qC (.int 1)) (qCB dMin2 (qCons (qC (.int 40)) (qCons (qVar 1) qNil)))) qNil)))) qNil)) (gNameD 6) (ga_T0 sp__law_names sp__law_take) := rfl
theorem ga_t0 (sp__law_names : DSp) (sp__law_take : DSp) {DW : DWt} {DE : DEnds} {p : Rho} {M : Mst} : ga_T0 sp__law_names sp__law_take DW DE p M = ga_R0 sp__law_names sp__law_take DW { DE with nx := ga_T1 sp__law_names sp__law_take DW DE } p M := rfl
theorem ga_t1 (sp__law_names : DSp) (sp__law_take : DSp) {DW : DWt} {DE : DEnds} {p : Rho} {M : Mst} : ga_T1 sp__law_names sp__law_take DW DE p M = ga_R1 sp__law_names sp__law_take DW { DE with nx := ga_T2 sp__law_names sp__law_take DW DE } p M := rfl
def gb_R0 (sp__law_names : DSp) (sp__law_take : DSp) : DTS := (qAsg (qOp (dMul false) (qCall sp__law_take [] (qCons (qVar 0) (qCons (qC (.int 61)) qNil))) (qCB dIntX (qCons (qOp (dEq false) (qCall sp__law_take [] (qCons (qVar 0) (qCons (qC (.int 4)) qNil))) (qC (.int 0))) qNil))) (gNameD 10))
def gb_R1 (sp__law_names : DSp) (sp__law_take : DSp) : DTS := (qDrop (qBM "list" mApp (qVar 9) (qCons (qTup (qCons (qOp dIx (qVar 2) (qVar 7)) (qCons (qOp dIx (qVar 2) (qVar 8)) (qCons (qOp (dAdd false) (qC (.int 1)) (qCall sp__law_take [] (qCons (qVar 0) (qCons (qVar 4) qNil)))) (qCons (qVar 10) qNil))))) qNil)))
def gb_T1 (sp__law_names : DSp) (sp__law_take : DSp) : DTS := gb_R1 sp__law_names sp__law_take
def gb_T0 (sp__law_names : DSp) (sp__law_take : DSp) : DTS := qSeq (gb_R0 sp__law_names sp__law_take) (gb_T1 sp__law_names sp__law_take)
theorem gw_for7 (sp__law_names : DSp) (sp__law_take : DSp) : gw_R7 sp__law_names sp__law_take = qFor (qiAny (qVar 5)) (gTupD 2 (gConsD (gNameD 7) (gConsD (gNameD 8) gNilD))) (gb_T0 sp__law_names sp__law_take) := rfl
theorem gb_t0 (sp__law_names : DSp) (sp__law_take : DSp) {DW : DWt} {DE : DEnds} {p : Rho} {M : Mst} : gb_T0 sp__law_names sp__law_take DW DE p M = gb_R0 sp__law_names sp__law_take DW { DE with nx := gb_T1 sp__law_names sp__law_take DW DE } p M := rfl
def gc_R0 (sp__law_names : DSp) (sp__law_take : DSp) : DTS := (qAsg (qOp dIx (qVar 2) (qCall sp__law_take [] (qCons (qVar 0) (qCons (qVar 1) qNil)))) (gNameD 12))
def gc_R1 (sp__law_names : DSp) (sp__law_take : DSp) : DTS := (qIfS (qTB (qOp (dIn true) (qVar 12) (qVar 11))) (qDrop (qBM "list" mApp (qVar 11) (qCons (qVar 12) qNil))) qNext)
def gc_T1 (sp__law_names : DSp) (sp__law_take : DSp) : DTS := gc_R1 sp__law_names sp__law_take
def gc_T0 (sp__law_names : DSp) (sp__law_take : DSp) : DTS := qSeq (gc_R0 sp__law_names sp__law_take) (gc_T1 sp__law_names sp__law_take)
theorem gw_for9 (sp__law_names : DSp) (sp__law_take : DSp) : gw_R9 sp__law_names sp__law_take = qFor (qiRng1 (qCons (qOp (dAdd false) (qC (.int 1)) (qCall sp__law_take [] (qCons (qVar 0) (qCons (qCB dMin2 (qCons (qC (.int 12)) (qCons (qVar 1) qNil))) qNil)))) qNil)) (gNameD 6) (gc_T0 sp__law_names sp__law_take) := rfl
theorem gc_t0 (sp__law_names : DSp) (sp__law_take : DSp) {DW : DWt} {DE : DEnds} {p : Rho} {M : Mst} : gc_T0 sp__law_names sp__law_take DW DE p M = gc_R0 sp__law_names sp__law_take DW { DE with nx := gc_T1 sp__law_names sp__law_take DW DE } p M := rfl
structure GrdOk (ps : List Pc_) (rs : List Rd_) (ss : List Str) : Prop where
  pn : 1 ≤ ps.length ∧ ps.length ≤ 40
  pd : (ps.map (·.1)).Nodup
  pm : ∀ p ∈ ps, nameS p.1 = true ∧ 1 ≤ p.2 ∧ p.2 ≤ 4
  rn : rs.length ≤ 79
  rp : ∀ r ∈ rs, r.1 ∈ ps.map (·.1) ∧ r.2.1 ∈ ps.map (·.1) ∧ r.1 ≠ r.2.1 ∧ 1 ≤ r.2.2.1 ∧ r.2.2.1 ≤ 60 ∧ 0 ≤ r.2.2.2 ∧ r.2.2.2 ≤ 60
  rd : rs.Pairwise fun a b => ¬ ((a.1 = b.1 ∧ a.2.1 = b.2.1) ∨ (a.1 = b.2.1 ∧ a.2.1 = b.1))
  sn : ss ≠ [] ∧ ss.length ≤ 12
  sd : ss.Nodup
  sm : ∀ s ∈ ss, s ∈ ps.map (·.1)
def spHGround : DSp := fun ds M Q _ => ∃ (b : Addr), ds = [.ref b] ∧ M b = some .bag ∧ ∀ ps rs ss, GrdOk ps rs ss → Q (grT ps rs ss) M
/-- a pair of places by numbers -/
abbrev Pr_ := Nat × Nat
def prD_ (x : Pr_) : D := .tup [.int (x.1 : Int), .int (x.2 : Int)]
theorem prs_prm (l : List Pr_) : prmL (l.map prD_) = true := by rw [prmL_all, List.all_map, List.all_eq_true]; intro x _; rfl
theorem any_pr (l : List Pr_) (x : Pr_) : ((l.map prD_).any fun e => deq e (prD_ x)) = decide (x ∈ l) := by
  have h : ∀ y : Pr_, deq (prD_ y) (prD_ x) = decide (y = x) := fun y => by
    have e := prm_deq (d := prD_ y) (e := prD_ x) rfl rfl
    by_cases z : y = x
    · subst z; rw [e.mpr rfl]; simp
    · rw [decide_eq_false z]
      cases w : deq (prD_ y) (prD_ x) with
      | false => rfl
      | true =>
        have := e.mp w
        simp only [prD_, D.tup.injEq, List.cons.injEq, D.int.injEq, and_true] at this
        exact absurd (Prod.ext (by omega) (by omega)) z
  induction l with
  | nil => rfl
  | cons y ys ih =>
    rw [List.map_cons, List.any_cons, ih, h, ← Bool.decide_or]
    apply decide_eq_decide.mpr
    simp [eq_comm]
theorem in_prs {l : List Pr_} {x : Pr_} {q : Addr} {M : Mst} {Q : DK} (h : M q = some (.lst (l.map prD_))) : dInD true (.tup [.int (x.1 : Int), .int (x.2 : Int)]) (.ref q) M Q = Q (.bl (!decide (x ∈ l))) M := by
  show dInD true (prD_ x) (.ref q) M Q = _
  unfold dInD
  rw [res_r h]
  have e : res M (prD_ x) = prD_ x := rfl
  simp only [e, any_pr, Bool.true_xor]
  have a1 : isData (prD_ x) = true := rfl
  have a2 : isData (.lst (l.map prD_)) = true := prm_data _ (prs_prm l)
  have a3 : dep (prD_ x) ≤ 64 := Nat.le_of_ble_eq_true rfl
  have a4 : dep (.lst (l.map prD_)) ≤ 64 := Nat.le_trans (dep_lst (n := 1) fun d hd => by obtain ⟨x, _, rfl⟩ := List.mem_map.mp hd; exact Nat.le_of_ble_eq_true rfl) (by decide)
  simp [a1, a2, a3, a4]
structure PrsOk (m : Nat) (l : List Pr_) : Prop where
  lt : ∀ x ∈ l, x.1 < m ∧ x.2 < m ∧ x.1 ≠ x.2
  pw : l.Pairwise fun a b => ¬ (a = b ∨ a = (b.2, b.1))
theorem PrsOk.nil {m : Nat} : PrsOk m [] := ⟨(fun _ h => nomatch h), List.Pairwise.nil⟩
theorem in_lsH {neg : Bool} {z : Str} {a : Addr} {zs : List Str} {M : Mst} {Q : DK} (h : M a = some (.lst (zs.map .str))) : dIn neg (.str z) (.ref a) M Q = Q (.bl (xor neg (decide (z ∈ zs)))) M := by
  rw [← in_strs (neg := neg) (z := z) (zs := zs) (M := M) (Q := Q)]
  unfold dIn dgetD
  simp only [DL.res, h]
theorem getD_mem {zs : List Str} {i : Nat} (h : i < zs.length) : zs.getD i Str.empty ∈ zs := by
  rw [List.getD_eq_getElem?_getD, List.getElem?_eq_getElem h]; exact List.getElem_mem h
theorem getD_inj {zs : List Str} (nd : zs.Nodup) {i j : Nat} (hi : i < zs.length) (hj : j < zs.length) (h : zs.getD i Str.empty = zs.getD j Str.empty) : i = j := by
  rw [List.getD_eq_getElem?_getD, List.getElem?_eq_getElem hi, List.getD_eq_getElem?_getD, List.getElem?_eq_getElem hj] at h
  simp only [Option.getD_some] at h
  rcases Nat.lt_trichotomy i j with c | c | c
  · exact absurd h ((List.pairwise_iff_getElem.mp nd) i j hi hj c)
  · exact c
  · exact absurd h.symm ((List.pairwise_iff_getElem.mp nd) j i hj hi c)
theorem places_of {zs : List Str} {os : List (Option D)} (h : All2 (fun d o => ∃ z k, d = D.str z ∧ o = some (pcD (z, k)) ∧ 1 ≤ k ∧ k ≤ 4) (zs.map .str) os) : ∃ ps : List Pc_, os.filterMap id = ps.map pcD ∧ ps.map (·.1) = zs ∧ ∀ p ∈ ps, 1 ≤ p.2 ∧ p.2 ≤ 4 := by
  induction zs generalizing os with
  | nil => cases h; exact ⟨[], rfl, rfl, fun _ h => nomatch h⟩
  | cons z zs ih =>
    rw [List.map_cons] at h
    cases h with
    | cons h1 h2 =>
      obtain ⟨ps, a, b, c⟩ := ih h2
      obtain ⟨z', k, e, rfl, k1, k2⟩ := h1
      cases e
      exact ⟨(z, k) :: ps, by simp [a], by simp [b], fun p hp => by
        rcases List.mem_cons.mp hp with rfl | hp
        · exact ⟨k1, k2⟩
        · exact c p hp⟩
theorem hground_ok (ds : List D) (M : Mst) (Q : DK) (Ed : DX → Mst → Prop) (h : upSp spHGround ds M Q Ed) : qHGround spHNames spTake (fun x _ M => Ed x M) (retE Q) (startD ["_law_bag_here", "_law_many", "_law_names_here", "_law_places", "_law_most", "_law_pairs", "_law_k", "_law_one", "_law_other_here", "_law_roads", "_law_slow", "_law_stations", "_law_place", "_law_name"] ds) M := by
  obtain ⟨Q0, E0, ⟨b, rfl, hb, k0⟩, kq, _⟩ := h
  have k : ∀ ps rs ss, GrdOk ps rs ss → ∀ M', Sub M M' → Q (grT ps rs ss) M' := fun ps rs ss hg M' s => kq _ _ _ s (k0 ps rs ss hg)
  clear kq k0
  rw [gw_cut, gw_t0]
  show gw_R0 _ _ _ _ [some (.ref b), none, none, none, none, none, none, none, none, none, none, none, none, none] M
  simp only [gw_R0, qSeq, qAsg, qTup, qCons, qNil, qOp, qUn, qC, qCall, qVar, qLst, newL_f, qIfS, qTB, qNext, qRet, qDrop, qFor, qCB, qAug, qSl, qPart, qNoPart, gNameD, gSub_eq, dInt_i, dInt0_i, dAdd_i, dCmpI_i, List.set_cons_zero, List.set_cons_succ, List.getElem?_cons_zero, List.getElem?_cons_succ, List.append_nil, z_l0, z_l1, z_l2, z_l3, z_l4, z_l5, z_l6, z_l7, z_l8, z_l9, z_l19, z_l24, z_l25, true_and]
  refine take_call hb (by decide) (by decide) fun r a b1 => pick_t a b1 fun d hd => ?_
  obtain ⟨m, m0, m1, rfl⟩ : ∃ m : Nat, 1 ≤ m ∧ m ≤ 40 ∧ d = .int (m : Int) := by
    simp only [List.mem_cons, List.not_mem_nil, or_false] at hd
    rcases hd with rfl | rfl | rfl | rfl | rfl | rfl
    · exact ⟨6, by decide, by decide, rfl⟩
    · exact ⟨3, by decide, by decide, rfl⟩
    · exact ⟨12, by decide, by decide, rfl⟩
    · exact ⟨1, by decide, by decide, rfl⟩
    · exact ⟨40, by decide, by decide, rfl⟩
    · exact ⟨8, by decide, by decide, rfl⟩
  show gw_T1 _ _ _ _ _ M
  rw [gw_t1]
  show gw_R1 _ _ _ _ _ M
  simp only [gw_R1, qSeq, qAsg, qTup, qCons, qNil, qOp, qUn, qC, qCall, qVar, qLst, newL_f, qIfS, qTB, qNext, qRet, qDrop, qFor, qCB, qAug, qSl, qPart, qNoPart, gNameD, gSub_eq, dInt_i, dInt0_i, dAdd_i, dCmpI_i, List.set_cons_zero, List.set_cons_succ, List.getElem?_cons_zero, List.getElem?_cons_succ, List.append_nil, z_l0, z_l1, z_l2, z_l3, z_l4, z_l5, z_l6, z_l7, z_l8, z_l9, z_l19, z_l24, z_l25, true_and]
  refine ⟨b, m, rfl, hb, by omega, fun zs lz nz hz => ?_⟩
  show gw_T2 _ _ _ _ _ M
  rw [gw_t2]
  show gw_R2 _ _ _ _ _ M
  simp only [gw_R2, qLc, qiAny, res_lst, qSeq, qAsg, qTup, qCons, qNil, qOp, qUn, qC, qCall, qVar, qLst, newL_f, qIfS, qTB, qNext, qRet, qDrop, qFor, qCB, qAug, qSl, qPart, qNoPart, gNameD, gSub_eq, dInt_i, dInt0_i, dAdd_i, dCmpI_i, List.set_cons_zero, List.set_cons_succ, List.getElem?_cons_zero, List.getElem?_cons_succ, List.append_nil, z_l0, z_l1, z_l2, z_l3, z_l4, z_l5, z_l6, z_l7, z_l8, z_l9, z_l19, z_l24, z_l25, true_and]
  intro c hc
  have hbc : ∀ acc, put M c (.lst acc) b = some .bag := fun acc => put_keep hb hc
  refine compL_rel hc (fun d o => ∃ z k, d = .str z ∧ o = some (pcD (z, k)) ∧ 1 ≤ k ∧ k ≤ 4) (fun _ => trivial) (zs.map .str) [] (by simp; omega) (fun d hd acc R hR => ?_) fun os hos => ?_
  · obtain ⟨z, hz1, rfl⟩ := List.mem_map.mp hd
    simp only [wipeD, qYes, if_true, qSeq, qAsg, qTup, qCons, qNil, qOp, qUn, qC, qCall, qVar, qLst, newL_f, qIfS, qTB, qNext, qRet, qDrop, qFor, qCB, qAug, qSl, qPart, qNoPart, gNameD, gSub_eq, dInt_i, dInt0_i, dAdd_i, dCmpI_i, List.set_cons_zero, List.set_cons_succ, List.getElem?_cons_zero, List.getElem?_cons_succ, List.append_nil, z_l0, z_l1, z_l2, z_l3, z_l4, z_l5, z_l6, z_l7, z_l8, z_l9, z_l19, z_l24, z_l25, true_and]
    refine take_call (hbc _) (by decide) (by decide) fun r1 a1 b1 => ?_
    simp only [dAdd_i]
    exact hR _ ⟨z, 1 + r1, rfl, rfl, by omega, by omega⟩
  obtain ⟨ps, e1, e2, e3⟩ := places_of hos
  simp only [Bool.false_eq_true, if_false, List.nil_append, e1]
  clear hbc hc e1 hos
  have lps : ps.length = m := by rw [← lz, ← e2, List.length_map]
  show gw_T3 _ _ _ _ _ M
  rw [gw_t3]
  show gw_R3 _ _ _ _ _ M
  simp only [gw_R3, qSeq, qAsg, qTup, qCons, qNil, qOp, qUn, qC, qCall, qVar, qLst, newL_f, qIfS, qTB, qNext, qRet, qDrop, qFor, qCB, qAug, qSl, qPart, qNoPart, gNameD, gSub_eq, dInt_i, dInt0_i, dAdd_i, dCmpI_i, List.set_cons_zero, List.set_cons_succ, List.getElem?_cons_zero, List.getElem?_cons_succ, List.append_nil, z_l0, z_l1, z_l2, z_l3, z_l4, z_l5, z_l6, z_l7, z_l8, z_l9, z_l19, z_l24, z_l25, true_and]
  refine take_call hb (by decide) (by decide) fun r a b1 => pick_t a b1 fun d hd => ?_
  obtain ⟨mo, mo0, mo1, rfl⟩ : ∃ mo : Int, 1 ≤ mo ∧ mo ≤ 60 ∧ d = .int mo := by
    simp only [List.mem_cons, List.not_mem_nil, or_false] at hd
    rcases hd with rfl | rfl | rfl
    · exact ⟨2, by decide, by decide, rfl⟩
    · exact ⟨5, by decide, by decide, rfl⟩
    · exact ⟨60, by decide, by decide, rfl⟩
  show gw_T4 _ _ _ _ _ M
  rw [gw_t4]
  show gw_R4 _ _ _ _ _ M
  simp only [gw_R4, newL_t, qSeq, qAsg, qTup, qCons, qNil, qOp, qUn, qC, qCall, qVar, qLst, newL_f, qIfS, qTB, qNext, qRet, qDrop, qFor, qCB, qAug, qSl, qPart, qNoPart, gNameD, gSub_eq, dInt_i, dInt0_i, dAdd_i, dCmpI_i, List.set_cons_zero, List.set_cons_succ, List.getElem?_cons_zero, List.getElem?_cons_succ, List.append_nil, z_l0, z_l1, z_l2, z_l3, z_l4, z_l5, z_l6, z_l7, z_l8, z_l9, z_l19, z_l24, z_l25, true_and]
  intro pl hpl
  have hb1 : ∀ o, put M pl o b = some .bag := fun o => put_keep hb hpl
  show gw_T5 _ _ _ _ _ _
  rw [gw_t5]
  show gw_R5 _ _ _ _ _ _
  rw [gw_for5]
  simp only [qFor, qiRng1, dMin2, res_int, qSeq, qAsg, qTup, qCons, qNil, qOp, qUn, qC, qCall, qVar, qLst, newL_f, qIfS, qTB, qNext, qRet, qDrop, qFor, qCB, qAug, qSl, qPart, qNoPart, gNameD, gSub_eq, dInt_i, dInt0_i, dAdd_i, dCmpI_i, List.set_cons_zero, List.set_cons_succ, List.getElem?_cons_zero, List.getElem?_cons_succ, List.append_nil, z_l0, z_l1, z_l2, z_l3, z_l4, z_l5, z_l6, z_l7, z_l8, z_l9, z_l19, z_l24, z_l25, true_and]
  refine take_call (hb1 _) (by split <;> omega) (by split <;> omega) fun r2 a2 b2 => ?_
  have hb2 : r2 ≤ 40 := by split at b2 <;> omega
  generalize hv : (m : Int) - 1 + r2 = v
  refine ⟨by omega, by omega, ?_⟩
  refine loopL_inv (n := v.toNat) (fun i p M' => ∃ (l : List Pr_) (x6 x7 x8 : Option D), p = [some (.ref b), some (.int (m : Int)), some (stL zs), some (.xtp (ps.map pcD)), some (.int mo), some (.ref pl), x6, x7, x8, none, none, none, none, none] ∧ M' = put M pl (.lst (l.map prD_)) ∧ PrsOk m l ∧ l.length ≤ i) (by rw [rangeD_len, hv]) (fun i d p M' R hd hI hR => ?_) (fun p M' hI => ?_) ⟨[], none, none, none, rfl, rfl, PrsOk.nil, Nat.le_refl _⟩
  · obtain ⟨l, x6, x7, x8, rfl, rfl, hl, hle⟩ := hI
    obtain ⟨hi, rfl⟩ := range_at hd
    refine ⟨trivial, ?_⟩
    simp only [gNameD, List.set_cons_zero, List.set_cons_succ]
    rw [ga_t0]
    show ga_R0 _ _ _ _ _ _
    simp only [ga_R0, qPar, qSeq, qAsg, qTup, qCons, qNil, qOp, qUn, qC, qCall, qVar, qLst, newL_f, qIfS, qTB, qNext, qRet, qDrop, qFor, qCB, qAug, qSl, qPart, qNoPart, gNameD, gSub_eq, dInt_i, dInt0_i, dAdd_i, dCmpI_i, List.set_cons_zero, List.set_cons_succ, List.getElem?_cons_zero, List.getElem?_cons_succ, List.append_nil, z_l0, z_l1, z_l2, z_l3, z_l4, z_l5, z_l6, z_l7, z_l8, z_l9, z_l19, z_l24, z_l25, true_and]
    refine ⟨by omega, by omega, ?_⟩
    have hm0 : (m : Int) ≠ 0 := by omega
    rw [show (i : Int) % m = ((i % m : Nat) : Int) from (Int.natCast_emod i m).symm, show ((i : Int) + 1) % m = (((i + 1) % m : Nat) : Int) from by rw [Int.natCast_emod]; rfl]
    have ot : (i + 1) % m < m := Nat.mod_lt _ (by omega)
    have on : i % m < m := Nat.mod_lt _ (by omega)
    generalize (i + 1) % m = o at ot
    show ga_T1 _ _ _ _ _ _
    rw [ga_t1]
    show ga_R1 _ _ _ _ _ _
    have tail : ∀ one : Nat, one < m → ga_T2 spHNames spTake (fun x _ M => Ed x M) { nx := R, rt := (retE Q).rt, bk := gw_T6 spHNames spTake (fun x _ M => Ed x M) (retE Q), ct := R } [some (.ref b), some (.int (m : Int)), some (stL zs), some (.xtp (ps.map pcD)), some (.int mo), some (.ref pl), some (.int (i : Int)), some (.int (one : Int)), some (.int (o : Int)), none, none, none, none, none] (put M pl (.lst (l.map prD_))) := fun one h1 => by
      have q1 : ∀ (x : Pr_) R, dInD true (.tup [.int (x.1 : Int), .int (x.2 : Int)]) (.ref pl) (put M pl (.lst (l.map prD_))) R = R (.bl (!decide (x ∈ l))) (put M pl (.lst (l.map prD_))) := fun x R => in_prs put_same
      have q2 := q1 (one, o)
      have q3 := q1 (o, one)
      simp only at q2 q3
      simp only [ga_T2, ga_R2, qAnd, q2, q3, z_ne_int, qSeq, qAsg, qTup, qCons, qNil, qOp, qUn, qC, qCall, qVar, qLst, newL_f, qIfS, qTB, qNext, qRet, qDrop, qFor, qCB, qAug, qSl, qPart, qNoPart, gNameD, gSub_eq, dInt_i, dInt0_i, dAdd_i, dCmpI_i, List.set_cons_zero, List.set_cons_succ, List.getElem?_cons_zero, List.getElem?_cons_succ, List.append_nil, z_l0, z_l1, z_l2, z_l3, z_l4, z_l5, z_l6, z_l7, z_l8, z_l9, z_l19, z_l24, z_l25, true_and]
      by_cases c1 : (one : Int) = o
      · rw [decide_eq_true c1]
        simp only [Bool.not_true, Bool.false_eq_true, if_false]
        exact hR _ _ ⟨l, _, _, _, rfl, rfl, hl, by omega⟩
      rw [decide_eq_false c1]
      simp only [Bool.not_false, if_true]
      by_cases c2 : (one, o) ∈ l
      · rw [decide_eq_true c2]
        simp only [Bool.not_true, Bool.false_eq_true, if_false]
        exact hR _ _ ⟨l, _, _, _, rfl, rfl, hl, by omega⟩
      rw [decide_eq_false c2]
      simp only [Bool.not_false, if_true]
      by_cases c3 : (o, one) ∈ l
      · rw [decide_eq_true c3]
        simp only [Bool.not_true, Bool.false_eq_true, if_false]
        exact hR _ _ ⟨l, _, _, _, rfl, rfl, hl, by omega⟩
      rw [decide_eq_false c3]
      simp only [Bool.not_false, if_true, qBM, mApp, put_same, put_put, res_r put_same, qSeq, qAsg, qTup, qCons, qNil, qOp, qUn, qC, qCall, qVar, qLst, newL_f, qIfS, qTB, qNext, qRet, qDrop, qFor, qCB, qAug, qSl, qPart, qNoPart, gNameD, gSub_eq, dInt_i, dInt0_i, dAdd_i, dCmpI_i, List.set_cons_zero, List.set_cons_succ, List.getElem?_cons_zero, List.getElem?_cons_succ, List.append_nil, z_l0, z_l1, z_l2, z_l3, z_l4, z_l5, z_l6, z_l7, z_l8, z_l9, z_l19, z_l24, z_l25, true_and]
      refine ⟨rfl, by simp; omega, hR _ _ ⟨l ++ [(one, o)], _, _, _, rfl, by simp [prD_], ⟨fun x hx => ?_, ?_⟩, by simp; omega⟩⟩
      · rcases List.mem_append.mp hx with h | h
        · exact hl.lt x h
        · rw [List.mem_singleton.mp h]; exact ⟨h1, ot, fun z => c1 (by simp at z; omega)⟩
      · rw [List.pairwise_append]
        refine ⟨hl.pw, List.pairwise_singleton .., fun a ha b hb => ?_⟩
        rw [List.mem_singleton.mp hb]
        rintro (rfl | rfl)
        · exact c2 ha
        · exact c3 ha
    simp only [ga_R1, qSeq, qAsg, qTup, qCons, qNil, qOp, qUn, qC, qCall, qVar, qLst, newL_f, qIfS, qTB, qNext, qRet, qDrop, qFor, qCB, qAug, qSl, qPart, qNoPart, gNameD, gSub_eq, dInt_i, dInt0_i, dAdd_i, dCmpI_i, List.set_cons_zero, List.set_cons_succ, List.getElem?_cons_zero, List.getElem?_cons_succ, List.append_nil, z_l0, z_l1, z_l2, z_l3, z_l4, z_l5, z_l6, z_l7, z_l8, z_l9, z_l19, z_l24, z_l25, true_and]
    refine take_call (hb1 _) (by decide) (by decide) fun r3 a3 b3 => ?_
    simp only [dCmpI_i]
    by_cases c : 0 < r3
    · rw [decide_eq_true c]
      simp only [if_true, qSeq, qAsg, qTup, qCons, qNil, qOp, qUn, qC, qCall, qVar, qLst, newL_f, qIfS, qTB, qNext, qRet, qDrop, qFor, qCB, qAug, qSl, qPart, qNoPart, gNameD, gSub_eq, dInt_i, dInt0_i, dAdd_i, dCmpI_i, List.set_cons_zero, List.set_cons_succ, List.getElem?_cons_zero, List.getElem?_cons_succ, List.append_nil, z_l0, z_l1, z_l2, z_l3, z_l4, z_l5, z_l6, z_l7, z_l8, z_l9, z_l19, z_l24, z_l25, true_and]
      refine take_call (hb1 _) (by omega) (by omega) fun r4 a4 b4 => ?_
      obtain ⟨q, rfl⟩ : ∃ q : Nat, r4 = q := ⟨r4.toNat, by omega⟩
      exact tail q (by omega)
    · rw [decide_eq_false c]
      exact tail _ on
  · obtain ⟨l, x6, x7, x8, rfl, rfl, hl, hle⟩ := hI
    refine ⟨trivial, ?_⟩
    show gw_T6 _ _ _ _ _ _
    rw [gw_t6]
    show gw_R6 _ _ _ _ _ _
    simp only [gw_R6, newL_t, qSeq, qAsg, qTup, qCons, qNil, qOp, qUn, qC, qCall, qVar, qLst, newL_f, qIfS, qTB, qNext, qRet, qDrop, qFor, qCB, qAug, qSl, qPart, qNoPart, gNameD, gSub_eq, dInt_i, dInt0_i, dAdd_i, dCmpI_i, List.set_cons_zero, List.set_cons_succ, List.getElem?_cons_zero, List.getElem?_cons_succ, List.append_nil, z_l0, z_l1, z_l2, z_l3, z_l4, z_l5, z_l6, z_l7, z_l8, z_l9, z_l19, z_l24, z_l25, true_and]
    intro rl hrl
    have nrl : pl ≠ rl := fun e => by rw [← e, put_same] at hrl; cases hrl
    have hrl0 : M rl = none := by rw [put_ne nrl.symm] at hrl; exact hrl
    have hb2 : ∀ o, put (put M pl (.lst (l.map prD_))) rl o b = some .bag := fun o => put_keep (hb1 _) hrl
    have hp2 : ∀ o, put (put M pl (.lst (l.map prD_))) rl o pl = some (.lst (l.map prD_)) := fun o => by rw [put_ne nrl, put_same]
    show gw_T7 _ _ _ _ _ _
    rw [gw_t7]
    show gw_R7 _ _ _ _ _ _
    rw [gw_for7]
    simp only [qFor, qiAny, qSeq, qAsg, qTup, qCons, qNil, qOp, qUn, qC, qCall, qVar, qLst, newL_f, qIfS, qTB, qNext, qRet, qDrop, qFor, qCB, qAug, qSl, qPart, qNoPart, gNameD, gSub_eq, dInt_i, dInt0_i, dAdd_i, dCmpI_i, List.set_cons_zero, List.set_cons_succ, List.getElem?_cons_zero, List.getElem?_cons_succ, List.append_nil, z_l0, z_l1, z_l2, z_l3, z_l4, z_l5, z_l6, z_l7, z_l8, z_l9, z_l19, z_l24, z_l25, true_and]
    rw [hp2]
    refine loopL_inv (n := l.length) (fun i p M' => ∃ (rs : List Rd_) (x7 x8 x10 : Option D), p = [some (.ref b), some (.int (m : Int)), some (stL zs), some (.xtp (ps.map pcD)), some (.int mo), some (.ref pl), x6, x7, x8, some (.ref rl), x10, none, none, none] ∧ M' = put (put M pl (.lst (l.map prD_))) rl (.lst (rs.map rdD)) ∧
      rs.map (fun r => (r.1, r.2.1)) = (l.take i).map (fun x => (zs.getD x.1 Str.empty, zs.getD x.2 Str.empty)) ∧ ∀ r ∈ rs, 1 ≤ r.2.2.1 ∧ r.2.2.1 ≤ 60 ∧ 0 ≤ r.2.2.2 ∧ r.2.2.2 ≤ 60) (by rw [List.length_map]) (fun i d p M' R hd hI hR => ?_) (fun p M' hI => ?_) ⟨[], x7, x8, none, rfl, rfl, rfl, fun _ h => nomatch h⟩
    · obtain ⟨rs, y7, y8, y10, rfl, rfl, hr1, hr2⟩ := hI
      rw [List.getElem?_map] at hd
      obtain ⟨x, hx, rfl⟩ := Option.map_eq_some_iff.mp hd
      have hi := (List.getElem?_eq_some_iff.mp hx).1
      have hlx := hl.lt x (List.mem_of_getElem? hx)
      have lrs : rs.length = i := by have := congrArg List.length hr1; simp [List.length_take] at this; omega
      refine ⟨hp2 _, ?_⟩
      show gTupD 2 _ (.tup [.int (x.1 : Int), .int (x.2 : Int)]) _ _ _ _
      simp only [gTupD, gConsD, gNilD, res_tup, List.length_cons, List.length_nil, true_and, gNameD, List.set_cons_zero, List.set_cons_succ]
      rw [gb_t0]
      show gb_R0 _ _ _ _ _ _
      simp only [gb_R0, qSeq, qAsg, qTup, qCons, qNil, qOp, qUn, qC, qCall, qVar, qLst, newL_f, qIfS, qTB, qNext, qRet, qDrop, qFor, qCB, qAug, qSl, qPart, qNoPart, gNameD, gSub_eq, dInt_i, dInt0_i, dAdd_i, dCmpI_i, List.set_cons_zero, List.set_cons_succ, List.getElem?_cons_zero, List.getElem?_cons_succ, List.append_nil, z_l0, z_l1, z_l2, z_l3, z_l4, z_l5, z_l6, z_l7, z_l8, z_l9, z_l19, z_l24, z_l25, true_and]
      refine take_call (hb2 _) (by decide) (by decide) fun s1 c1 c2 => ?_
      refine take_call (hb2 _) (by decide) (by decide) fun s2 c3 c4 => ?_
      simp only [z_eq_int, z_intX_b, dMul, res_int]
      generalize hw : s1 * (if decide (s2 = 0) = true then (1 : Int) else 0) = sl
      have hsl : 0 ≤ sl ∧ sl ≤ 60 := by rw [← hw]; split <;> omega
      refine ⟨.inl ⟨by omega, by omega⟩, ?_⟩
      simp only [gb_T1, gb_R1, qBM, qSeq, qAsg, qTup, qCons, qNil, qOp, qUn, qC, qCall, qVar, qLst, newL_f, qIfS, qTB, qNext, qRet, qDrop, qFor, qCB, qAug, qSl, qPart, qNoPart, gNameD, gSub_eq, dInt_i, dInt0_i, dAdd_i, dCmpI_i, List.set_cons_zero, List.set_cons_succ, List.getElem?_cons_zero, List.getElem?_cons_succ, List.append_nil, z_l0, z_l1, z_l2, z_l3, z_l4, z_l5, z_l6, z_l7, z_l8, z_l9, z_l19, z_l24, z_l25, true_and]
      refine ⟨by rw [res_r put_same]; rfl, ?_⟩
      have g1 : zs[x.1]? = some (zs.getD x.1 Str.empty) := by rw [List.getD_eq_getElem?_getD, List.getElem?_eq_getElem (by omega)]; rfl
      have g2 : zs[x.2]? = some (zs.getD x.2 Str.empty) := by rw [List.getD_eq_getElem?_getD, List.getElem?_eq_getElem (by omega)]; rfl
      rw [ix_strs g1, ix_strs g2]
      refine take_call (hb2 _) (by omega) (by omega) fun s3 c5 c6 => ?_
      simp only [dAdd_i, mApp, put_same, put_put]
      refine ⟨by simp; omega, hR _ _ ⟨rs ++ [(zs.getD x.1 Str.empty, zs.getD x.2 Str.empty, 1 + s3, sl)], _, _, _, rfl, by simp [rdD], by rw [List.map_append, hr1, List.take_add_one, hx]; simp, fun r hr => ?_⟩⟩
      rcases List.mem_append.mp hr with h | h
      · exact hr2 r h
      · rw [List.mem_singleton.mp h]; exact ⟨by show 1 ≤ 1 + s3; omega, by show 1 + s3 ≤ 60; omega, hsl⟩
    · obtain ⟨rs, y7, y8, y10, rfl, rfl, hr1, hr2⟩ := hI
      rw [List.take_length] at hr1
      have lrs : rs.length = l.length := by have := congrArg List.length hr1; simpa using this
      refine ⟨hp2 _, ?_⟩
      show gw_T8 _ _ _ _ _ _
      rw [gw_t8]
      show gw_R8 _ _ _ _ _ _
      simp only [gw_R8, newL_t, qSeq, qAsg, qTup, qCons, qNil, qOp, qUn, qC, qCall, qVar, qLst, newL_f, qIfS, qTB, qNext, qRet, qDrop, qFor, qCB, qAug, qSl, qPart, qNoPart, gNameD, gSub_eq, dInt_i, dInt0_i, dAdd_i, dCmpI_i, List.set_cons_zero, List.set_cons_succ, List.getElem?_cons_zero, List.getElem?_cons_succ, List.append_nil, z_l0, z_l1, z_l2, z_l3, z_l4, z_l5, z_l6, z_l7, z_l8, z_l9, z_l19, z_l24, z_l25, true_and]
      intro sl hsl
      have nsr : rl ≠ sl := fun e => by rw [← e, put_same] at hsl; cases hsl
      have hb3 : ∀ o, put (put (put M pl (.lst (l.map prD_))) rl (.lst (rs.map rdD))) sl o b = some .bag := fun o => put_keep (hb2 _) hsl
      have hr3 : ∀ o, put (put (put M pl (.lst (l.map prD_))) rl (.lst (rs.map rdD))) sl o rl = some (.lst (rs.map rdD)) := fun o => by rw [put_ne nsr, put_same]
      show gw_T9 _ _ _ _ _ _
      rw [gw_t9]
      show gw_R9 _ _ _ _ _ _
      rw [gw_for9]
      simp only [qFor, qiRng1, dMin2, res_int, qSeq, qAsg, qTup, qCons, qNil, qOp, qUn, qC, qCall, qVar, qLst, newL_f, qIfS, qTB, qNext, qRet, qDrop, qFor, qCB, qAug, qSl, qPart, qNoPart, gNameD, gSub_eq, dInt_i, dInt0_i, dAdd_i, dCmpI_i, List.set_cons_zero, List.set_cons_succ, List.getElem?_cons_zero, List.getElem?_cons_succ, List.append_nil, z_l0, z_l1, z_l2, z_l3, z_l4, z_l5, z_l6, z_l7, z_l8, z_l9, z_l19, z_l24, z_l25, true_and]
      refine take_call (hb3 _) (by split <;> omega) (by split <;> omega) fun r2 a2 b2 => ?_
      have hb2 : r2 ≤ 11 := by split at b2 <;> omega
      simp only [dAdd_i]
      refine ⟨by omega, by omega, ?_⟩
      refine loopL_inv (n := (1 + r2).toNat) (fun i p M' => ∃ (ss : List Str) (x6 x12 : Option D), p = [some (.ref b), some (.int (m : Int)), some (stL zs), some (.xtp (ps.map pcD)), some (.int mo), some (.ref pl), x6, y7, y8, some (.ref rl), y10, some (.ref sl), x12, none] ∧ M' = put (put (put M pl (.lst (l.map prD_))) rl (.lst (rs.map rdD))) sl (.lst (ss.map .str)) ∧ ss.Nodup ∧ (∀ z ∈ ss, z ∈ zs) ∧ ss.length ≤ i ∧ (0 < i → ss ≠ [])) (by rw [rangeD_len]) (fun i d p M' R hd hI hR => ?_) (fun p M' hI => ?_) ⟨[], x6, none, rfl, rfl, List.nodup_nil, (fun _ h => nomatch h), Nat.le_refl _, fun z => absurd z (Nat.lt_irrefl 0)⟩
      · obtain ⟨ss, z6, x12, rfl, rfl, hn, hm, hle, _⟩ := hI
        obtain ⟨hi, rfl⟩ := range_at hd
        refine ⟨trivial, ?_⟩
        simp only [gNameD, List.set_cons_zero, List.set_cons_succ]
        rw [gc_t0]
        show gc_R0 _ _ _ _ _ _
        simp only [gc_R0, qSeq, qAsg, qTup, qCons, qNil, qOp, qUn, qC, qCall, qVar, qLst, newL_f, qIfS, qTB, qNext, qRet, qDrop, qFor, qCB, qAug, qSl, qPart, qNoPart, gNameD, gSub_eq, dInt_i, dInt0_i, dAdd_i, dCmpI_i, List.set_cons_zero, List.set_cons_succ, List.getElem?_cons_zero, List.getElem?_cons_succ, List.append_nil, z_l0, z_l1, z_l2, z_l3, z_l4, z_l5, z_l6, z_l7, z_l8, z_l9, z_l19, z_l24, z_l25, true_and]
        refine take_call (hb3 _) (by omega) (by omega) fun s3 c5 c6 => ?_
        obtain ⟨q, rfl⟩ : ∃ q : Nat, s3 = q := ⟨s3.toNat, by omega⟩
        have hq : q < zs.length := by omega
        rw [ix_strs (List.getElem?_eq_getElem hq)]
        have e9 : ∀ R, dIn true (.str zs[q]) (.ref sl) (put (put (put M pl (.lst (l.map prD_))) rl (.lst (rs.map rdD))) sl (.lst (ss.map .str))) R = R (.bl (!decide (zs[q] ∈ ss))) (put (put (put M pl (.lst (l.map prD_))) rl (.lst (rs.map rdD))) sl (.lst (ss.map .str))) := fun R => by
          rw [in_lsH put_same, Bool.true_xor]
        simp only [gc_T1, gc_R1, e9, qSeq, qAsg, qTup, qCons, qNil, qOp, qUn, qC, qCall, qVar, qLst, newL_f, qIfS, qTB, qNext, qRet, qDrop, qFor, qCB, qAug, qSl, qPart, qNoPart, gNameD, gSub_eq, dInt_i, dInt0_i, dAdd_i, dCmpI_i, List.set_cons_zero, List.set_cons_succ, List.getElem?_cons_zero, List.getElem?_cons_succ, List.append_nil, z_l0, z_l1, z_l2, z_l3, z_l4, z_l5, z_l6, z_l7, z_l8, z_l9, z_l19, z_l24, z_l25, true_and]
        by_cases c : zs[q] ∈ ss
        · rw [decide_eq_true c]
          simp only [Bool.not_true, Bool.false_eq_true, if_false]
          exact hR _ _ ⟨ss, _, _, rfl, rfl, hn, hm, by omega, fun _ e => by rw [e] at c; cases c⟩
        · rw [decide_eq_false c]
          simp only [Bool.not_false, if_true, qBM, mApp, put_same, put_put, res_r put_same, qSeq, qAsg, qTup, qCons, qNil, qOp, qUn, qC, qCall, qVar, qLst, newL_f, qIfS, qTB, qNext, qRet, qDrop, qFor, qCB, qAug, qSl, qPart, qNoPart, gNameD, gSub_eq, dInt_i, dInt0_i, dAdd_i, dCmpI_i, List.set_cons_zero, List.set_cons_succ, List.getElem?_cons_zero, List.getElem?_cons_succ, List.append_nil, z_l0, z_l1, z_l2, z_l3, z_l4, z_l5, z_l6, z_l7, z_l8, z_l9, z_l19, z_l24, z_l25, true_and]
          refine ⟨rfl, by simp; omega, hR _ _ ⟨ss ++ [zs[q]], _, _, rfl, by simp, ?_, fun z hz => ?_, by simp; omega, fun _ => by simp⟩⟩
          · rw [List.nodup_append]
            exact ⟨hn, by simp, fun a ha b hb e => c (by rw [List.mem_singleton.mp hb] at e; rw [← e]; exact ha)⟩
          · rcases List.mem_append.mp hz with h | h
            · exact hm z h
            · rw [List.mem_singleton.mp h]; exact List.getElem_mem hq
      · obtain ⟨ss, z6, x12, rfl, rfl, hn, hm, hle, hne⟩ := hI
        refine ⟨trivial, ?_⟩
        have hr4 := hr3 (.lst (ss.map .str))
        have hs4 : put (put (put M pl (.lst (l.map prD_))) rl (.lst (rs.map rdD))) sl (.lst (ss.map .str)) sl = some (.lst (ss.map .str)) := put_same
        have sub : Sub M (put (put (put M pl (.lst (l.map prD_))) rl (.lst (rs.map rdD))) sl (.lst (ss.map .str))) := (((Sub.refl M).put hpl).put hrl0).put (by
          cases e : M sl with
          | none => rfl
          | some o => rw [((Sub.refl M).put (o := .lst (l.map prD_)) hpl |>.put (o := .lst (rs.map rdD)) hrl0) _ _ e] at hsl; cases hsl)
        generalize put (put (put M pl (.lst (l.map prD_))) rl (.lst (rs.map rdD))) sl (.lst (ss.map .str)) = M4 at hr4 hs4 sub
        simp only [gw_T10, gw_R10, dTupX, res_r hr4, res_r hs4, qSeq, qAsg, qTup, qCons, qNil, qOp, qUn, qC, qCall, qVar, qLst, newL_f, qIfS, qTB, qNext, qRet, qDrop, qFor, qCB, qAug, qSl, qPart, qNoPart, gNameD, gSub_eq, dInt_i, dInt0_i, dAdd_i, dCmpI_i, List.set_cons_zero, List.set_cons_succ, List.getElem?_cons_zero, List.getElem?_cons_succ, List.append_nil, z_l0, z_l1, z_l2, z_l3, z_l4, z_l5, z_l6, z_l7, z_l8, z_l9, z_l19, z_l24, z_l25, true_and]
        refine k ps rs ss ⟨⟨by omega, by omega⟩, by rw [e2]; exact nz, fun p hp => ⟨hz _ (by rw [← e2]; exact List.mem_map_of_mem hp), e3 p hp⟩, by omega, fun r hr => ?_, ?_, ⟨hne (by omega), by omega⟩, hn, by rw [e2]; exact hm⟩ M4 sub
        · have hm2 : (r.1, r.2.1) ∈ l.map (fun x => (zs.getD x.1 Str.empty, zs.getD x.2 Str.empty)) := by
            rw [← hr1]; exact List.mem_map_of_mem (f := fun r : Rd_ => (r.1, r.2.1)) hr
          obtain ⟨x, hx, e⟩ := List.mem_map.mp hm2
          obtain ⟨x1, x2, x3⟩ := hl.lt x hx
          have ea : zs.getD x.1 Str.empty = r.1 := congrArg Prod.fst e
          have eb : zs.getD x.2 Str.empty = r.2.1 := congrArg Prod.snd e
          refine ⟨by rw [e2, ← ea]; exact getD_mem (by omega), by rw [e2, ← eb]; exact getD_mem (by omega), fun z => x3 ?_, hr2 r hr⟩
          exact getD_inj nz (by omega) (by omega) (by rw [ea, eb]; exact z)
        · have h1 : (rs.map fun r => (r.1, r.2.1)).Pairwise fun a b => ¬ ((a.1 = b.1 ∧ a.2 = b.2) ∨ (a.1 = b.2 ∧ a.2 = b.1)) := by
            rw [hr1, List.pairwise_map]
            refine List.Pairwise.imp_of_mem (fun {a b} ha hb hn z => hn ?_) hl.pw
            obtain ⟨a1, a2, _⟩ := hl.lt a ha
            obtain ⟨b1, b2, _⟩ := hl.lt b hb
            rcases z with ⟨z1, z2⟩ | ⟨z1, z2⟩
            · exact .inl (Prod.ext (getD_inj nz (by omega) (by omega) z1) (getD_inj nz (by omega) (by omega) z2))
            · exact .inr (Prod.ext (getD_inj nz (by omega) (by omega) z1) (getD_inj nz (by omega) (by omega) z2))
          exact List.pairwise_map.mp h1
end DL
namespace DL
open PySem L2 Tx20 Tx21
abbrev FRow : List Str := [(PySem.Str.ofString "number"), (PySem.Str.ofString "written"), (PySem.Str.ofString "at"), (PySem.Str.ofString "deed"), (PySem.Str.ofString "right")]
def qRowInit (c_Row : Addr) : DTS :=
  (qSeq (qSetF c_Row FRow 0 (PySem.Str.ofString "number") (qVar 0) (qVar 1))
  (qSeq (qSetF c_Row FRow 1 (PySem.Str.ofString "written") (qVar 0) (qVar 2))
  (qSeq (qSetF c_Row FRow 2 (PySem.Str.ofString "at") (qVar 0) (qVar 3))
  (qSeq (qSetF c_Row FRow 3 (PySem.Str.ofString "deed") (qVar 0) (qVar 4))
  (qSetF c_Row FRow 4 (PySem.Str.ofString "right") (qVar 0) (qVar 5))))))
def qRowFive (c_Row : Addr) : DTS :=
  (qRet (qTup (qCons (qFld c_Row FRow 0 (qVar 0)) (qCons (qFld c_Row FRow 1 (qVar 0)) (qCons (qFld c_Row FRow 2 (qVar 0)) (qCons (qFld c_Row FRow 3 (qVar 0)) (qCons (qFld c_Row FRow 4 (qVar 0)) qNil)))))))
def qRowEq (c_Row : Addr) (sp_Row_five : DSp) : DTS :=
  (qRet (qAndV (qCB (dIsO c_Row) (qCons (qVar 1) (qCons (qC (.ref c_Row)) qNil))) (qOp (dEq false) (qMeth c_Row FRow sp_Row_five [] (qVar 0) qNil) (qMeth c_Row FRow sp_Row_five [] (qVar 1) qNil))))
def qRowStr (sp_text_of : DSp) : DTS :=
  (qRet (qCB dStr (qCons (qCall sp_text_of [] (qCons (qVar 0) qNil)) qNil)))
def qRowRepr (c_Row : Addr) : DTS :=
  (qRet (qJs [(qC (.str (PySem.Str.ofString "Row("))), (qFmt (qFld c_Row FRow 0 (qVar 0))), (qC (.str (PySem.Str.ofString ")")))] Str.empty))
def qTextOf (c_Row : Addr) (sp_shown : DSp) : DTS :=
  (qSeq (qAsg (qOp (dAdd true) (qLst false (qCons (qCB dStr (qCons (qFld c_Row FRow 0 (qVar 0)) qNil)) (qCons (qCall sp_shown [] (qCons (qFld c_Row FRow 1 (qVar 0)) qNil)) (qCons (qCall sp_shown [] (qCons (qFld c_Row FRow 2 (qVar 0)) qNil)) qNil)))) (qLc false (qiAny (qFld c_Row FRow 3 (qVar 0))) (gNameD 2) qYes (qCB dStr (qCons (qVar 2) qNil)) [2])) (gNameD 1))
  (qSeq (qIfS (qTB (qOp (dEq true) (qFld c_Row FRow 4 (qVar 0)) (qC (.int 0))))
  (qAug 1 (qLst false (qCons (qC (.str (PySem.Str.ofString "right"))) (qCons (qCB dStr (qCons (qFld c_Row FRow 4 (qVar 0)) qNil)) qNil))) dAug)
  qNext)
  (qRet (qBM "str" mJoin (qC (.str (PySem.Str.ofString " "))) (qCons (qVar 1) qNil)))))
def qShown : DTS :=
  (qSeq (qAsg (qCB dDivmod (qCons (qVar 0) (qCons (qC (.int 1440)) qNil))) (gTupD 2 (gConsD (gNameD 1) (gConsD (gNameD 2) gNilD))))
  (qSeq (qAsg (qCB dDivmod (qCons (qVar 2) (qCons (qC (.int 60)) qNil))) (gTupD 2 (gConsD (gNameD 3) (gConsD (gNameD 4) gNilD))))
  (qRet (qOp (dAdd false) (qOp (dAdd false) (qOp (dAdd false) (qOp (dAdd false) (qCB dStr (qCons (qVar 1) qNil)) (qC (.str (PySem.Str.ofString " ")))) (qBM "str" mZfill (qCB dStr (qCons (qVar 3) qNil)) (qCons (qC (.int 2)) qNil))) (qC (.str (PySem.Str.ofString ":")))) (qBM "str" mZfill (qCB dStr (qCons (qVar 4) qNil)) (qCons (qC (.int 2)) qNil))))))
mutual
theorem prm_plain : ∀ d : D, prm d = true → plainD d = true
  | .non, _ => rfl
  | .int _, _ => rfl
  | .str _, _ => rfl
  | .tup ds, h => prmL_plain ds h
  | .lst ds, h => prmL_plain ds h
  | .bl _, h => by cases h
  | .ktp _, h => by cases h
  | .xtp _, h => by cases h
  | .scr _, h => by cases h
  | .ty _, h => by cases h
  | .ref _, h => by cases h
  | .dct _ _, h => by cases h
  | .ins _ _ _, h => by cases h
  | .exc _ _ _ _, h => by cases h
  | .fnv _ _ _ _ _, h => by cases h
theorem prmL_plain : ∀ ds : List D, prmL ds = true → plainDL ds = true
  | [], _ => rfl
  | d :: ds, h => by
    have h' : prm d = true ∧ prmL ds = true := by simpa [prmL] using h
    simp [plainDL, prm_plain d h'.1, prmL_plain ds h'.2]
end
def spRowInit (c : Addr) : DSp := fun ds M Q _ => ∃ (a : Addr) (y0 y1 y2 y3 y4 : D), ds = [.ref a, y0, y1, y2, y3, y4] ∧ M a = some (.ins c []) ∧ Q .non (put M a (.ins c (FRow.zip [y0, y1, y2, y3, y4])))
theorem rowinit_ok (c : Addr) (ds : List D) (M : Mst) (Q : DK) (Ed : DX → Mst → Prop) (h : upSp (spRowInit c) ds M Q Ed) : qRowInit c (fun x _ M => Ed x M) (retE Q) (startD ["self", "number", "written", "at", "deed", "right"] ds) M := by
  obtain ⟨Q0, E0, ⟨a, y0, y1, y2, y3, y4, rfl, ha, k0⟩, kq, _⟩ := h
  have k := kq _ _ _ (Sub.refl _) k0
  show qRowInit _ _ _ [some (.ref a), some y0, some y1, some y2, some y3, some y4] M
  simp only [qRowInit, qSetF, ha, put_same, put_put, qSeq, qAsg, qTup, qCons, qNil, qOp, qUn, qC, qCall, qVar, qLst, newL_f, qIfS, qTB, qNext, qRet, qDrop, qFor, qCB, qAug, qSl, qPart, qNoPart, gNameD, gSub_eq, dInt_i, dInt0_i, dAdd_i, dCmpI_i, List.set_cons_zero, List.set_cons_succ, List.getElem?_cons_zero, List.getElem?_cons_succ, List.append_nil, z_l0, z_l1, z_l2, z_l3, z_l4, z_l5, z_l6, z_l7, z_l8, z_l9, z_l19, z_l24, z_l25, true_and]
  have L : ∀ {a b : Nat}, Nat.ble a b = true → a ≤ b := Nat.le_of_ble_eq_true
  exact ⟨rfl, L rfl, L rfl, rfl, L rfl, L rfl, rfl, L rfl, L rfl, rfl, L rfl, L rfl, rfl, L rfl, L rfl, k⟩
def spFive (c : Addr) : DSp := fun ds M Q _ => ∃ (l : List D), ds = [.ins c FRow l] ∧ l.length = 5 ∧ Q (.tup l) M
theorem five_ok (c : Addr) (ds : List D) (M : Mst) (Q : DK) (Ed : DX → Mst → Prop) (h : upSp (spFive c) ds M Q Ed) : qRowFive c (fun x _ M => Ed x M) (retE Q) (startD ["self"] ds) M := by
  obtain ⟨Q0, E0, ⟨l, rfl, hl, k0⟩, kq, _⟩ := h
  have k := kq _ _ _ (Sub.refl _) k0
  match l, hl with
  | [y0, y1, y2, y3, y4], _ =>
    show qRowFive _ _ _ [some (.ins c FRow [y0, y1, y2, y3, y4])] M
    simp only [qRowFive, qFld, insD, List.take_length, qSeq, qAsg, qTup, qCons, qNil, qOp, qUn, qC, qCall, qVar, qLst, newL_f, qIfS, qTB, qNext, qRet, qDrop, qFor, qCB, qAug, qSl, qPart, qNoPart, gNameD, gSub_eq, dInt_i, dInt0_i, dAdd_i, dCmpI_i, List.set_cons_zero, List.set_cons_succ, List.getElem?_cons_zero, List.getElem?_cons_succ, List.append_nil, z_l0, z_l1, z_l2, z_l3, z_l4, z_l5, z_l6, z_l7, z_l8, z_l9, z_l19, z_l24, z_l25, true_and]
    exact ⟨rfl, rfl, rfl, rfl, rfl, rfl, rfl, rfl, rfl, rfl, k⟩
/-- two rows alike -/
def spRowEq (c : Addr) : DSp := fun ds M Q _ => ∃ (l : List D) (y : D), ds = [.ins c FRow l, y] ∧ l.length = 5 ∧ prmL l = true ∧ dep (.tup l) ≤ 64 ∧ ((∃ l', y = .ins c FRow l' ∧ l'.length = 5 ∧ prmL l' = true ∧ ∀ b : Bool, (b = true ↔ l = l') → Q (.bl b) M) ∨ (hasTy (res M y) = true ∧ (∀ C ns ys, res M y ≠ .ins C ns ys) ∧ Q (.bl false) M))
theorem roweq_ok (c : Addr) (ds : List D) (M : Mst) (Q : DK) (Ed : DX → Mst → Prop) (h : upSp (spRowEq c) ds M Q Ed) : qRowEq c (spFive c) (fun x _ M => Ed x M) (retE Q) (startD ["self", "other"] ds) M := by
  obtain ⟨Q0, E0, ⟨l, y, rfl, hl, pl, dl, hc⟩, kq, _⟩ := h
  show qRowEq _ _ _ _ [some (.ins c FRow l), some y] M
  rcases hc with ⟨l', rfl, hl', pl', k0⟩ | ⟨h1, h2, k0⟩
  · have k : ∀ b : Bool, (b = true ↔ l = l') → Q (.bl b) M := fun b hb => kq _ _ _ (Sub.refl _) (k0 b hb)
    simp only [qRowEq, qAndV, dIsO, res, qMeth, isObj, insD, List.take_length, qSeq, qAsg, qTup, qCons, qNil, qOp, qUn, qC, qCall, qVar, qLst, newL_f, qIfS, qTB, qNext, qRet, qDrop, qFor, qCB, qAug, qSl, qPart, qNoPart, gNameD, gSub_eq, dInt_i, dInt0_i, dAdd_i, dCmpI_i, List.set_cons_zero, List.set_cons_succ, List.getElem?_cons_zero, List.getElem?_cons_succ, List.append_nil, z_l0, z_l1, z_l2, z_l3, z_l4, z_l5, z_l6, z_l7, z_l8, z_l9, z_l19, z_l24, z_l25, true_and]
    refine ⟨l, rfl, hl, ?_⟩
    refine ⟨l', rfl, hl', ?_⟩
    show dEq false (.tup l) (.tup l') M _
    by_cases e : l = l'
    · rw [eq_prm (d := .tup l) (e := .tup l') (b := true) res_tup res_tup pl pl' dl ⟨fun _ => by rw [e], fun _ => rfl⟩, Bool.false_xor]
      exact k true ⟨fun _ => e, fun _ => rfl⟩
    · rw [eq_prm (d := .tup l) (e := .tup l') (b := false) res_tup res_tup pl pl' dl ⟨fun h => (by cases h), fun h => absurd (by injection h) e⟩, Bool.false_xor]
      exact k false ⟨fun h => (by cases h), fun h => absurd h e⟩
  · have k : Q (.bl false) M := kq _ _ _ (Sub.refl _) k0
    simp only [qRowEq, qAndV, dIsO, qSeq, qAsg, qTup, qCons, qNil, qOp, qUn, qC, qCall, qVar, qLst, newL_f, qIfS, qTB, qNext, qRet, qDrop, qFor, qCB, qAug, qSl, qPart, qNoPart, gNameD, gSub_eq, dInt_i, dInt0_i, dAdd_i, dCmpI_i, List.set_cons_zero, List.set_cons_succ, List.getElem?_cons_zero, List.getElem?_cons_succ, List.append_nil, z_l0, z_l1, z_l2, z_l3, z_l4, z_l5, z_l6, z_l7, z_l8, z_l9, z_l19, z_l24, z_l25, true_and]
    cases hres : res M y with
    | ins C ns ys => exact absurd hres (h2 C ns ys)
    | _ =>
      rw [hres] at h1
      simp only [Bool.false_eq_true, if_false]
      exact ⟨h1, k⟩
theorem insD_i {M : Mst} {C : Addr} {ns : List Str} {ds : List D} : insD M (.ins C ns ds) = some (C, ns, ds) := rfl
def numI (i : Int) : Str := Str.ofString (toString i)
theorem num_fin : ∀ n : Fin 1001, txB 4 (Str.ofString (toString ((n.val : Nat) : Int))) = true := by decide +kernel
theorem num_tx {i : Int} (h0 : 0 ≤ i) (h1 : i ≤ 1000) : Tx_ 4 (numI i) := by
  obtain ⟨n, rfl⟩ : ∃ n : Nat, i = n := ⟨i.toNat, by omega⟩
  exact tx_of (num_fin ⟨n, by omega⟩)
theorem num_log {i : Int} (h0 : 0 ≤ i) (h1 : i ≤ 1000) : i.natAbs.log2 < 1920 := by
  rcases Nat.eq_zero_or_pos i.natAbs with z | z
  · rw [z]; decide
  · exact Nat.lt_trans ((Nat.log2_lt (k := 10) (by omega)).mpr (by omega)) (by decide)
theorem str_num {i : Int} {M : Mst} {Q : DK} (h0 : 0 ≤ i) (h1 : i ≤ 1000) (k : Q (.str (numI i)) M) : dStr [.int i] M Q :=
  ⟨num_log h0 h1, (num_tx h0 h1).ok (by decide), k⟩
def two (i : Int) : Str := Txt.zfill (numI i) 2
def twoL (i : Int) : Str := cutS (lit "0" ++ numI i) (some (-2)) none
theorem two_fin : ∀ n : Fin 60, two ((n.val : Nat) : Int) = twoL ((n.val : Nat) : Int) ∧ txB 2 (two ((n.val : Nat) : Int)) = true ∧ (two ((n.val : Nat) : Int)).length = 2 := by decide +kernel
theorem two_eq {i : Int} (h0 : 0 ≤ i) (h1 : i < 60) : two i = twoL i ∧ Tx_ 2 (two i) ∧ (two i).length = 2 := by
  obtain ⟨n, rfl⟩ : ∃ n : Nat, i = n := ⟨i.toNat, by omega⟩
  obtain ⟨a, b, c⟩ := two_fin ⟨n, by omega⟩
  exact ⟨a, tx_of b, c⟩
def shownS (m : Int) : Str := numI (m / 1440) ++ lit " " ++ two (m % 1440 / 60) ++ lit ":" ++ two (m % 1440 % 60)
theorem lit_sp : Tx_ 1 (lit " ") := tx_of (by decide +kernel)
theorem lit_co : Tx_ 1 (lit ":") := tx_of (by decide +kernel)
theorem shown_tx {m : Int} (h0 : 0 ≤ m) (h1 : m ≤ 100000) : Tx_ 10 (shownS m) := by
  have a := num_tx (i := m / 1440) (by omega) (by omega)
  have b := (two_eq (i := m % 1440 / 60) (by omega) (by omega)).2.1
  have c := (two_eq (i := m % 1440 % 60) (by omega) (by omega)).2.1
  exact (((a.app lit_sp).app b).app lit_co).app c
def spShown : DSp := fun ds M Q _ => ∃ (m : Int), ds = [.int m] ∧ 0 ≤ m ∧ m ≤ 100000 ∧ Q (.str (shownS m)) M
theorem add_s {x y : Str} {n k : Nat} {M : Mst} {Q : DK} (h : Tx_ n x) (g : Tx_ k y) (hn : n + k ≤ 100000) (q : Q (.str (x ++ y)) M) : dAdd false (.str x) (.str y) M Q := by
  rw [z_add_str]
  exact ⟨by have := h.len; have := g.len; omega, q⟩
theorem shown_ok (ds : List D) (M : Mst) (Q : DK) (Ed : DX → Mst → Prop) (h : upSp spShown ds M Q Ed) : qShown (fun x _ M => Ed x M) (retE Q) (startD ["minute", "day", "rest", "hour", "left"] ds) M := by
  obtain ⟨Q0, E0, ⟨m, rfl, h0, h1, k0⟩, kq, _⟩ := h
  have k := kq _ _ _ (Sub.refl _) k0
  clear kq k0
  have a := num_tx (i := m / 1440) (by omega) (by omega)
  have b := (two_eq (i := m % 1440 / 60) (by omega) (by omega)).2.1
  have c := (two_eq (i := m % 1440 % 60) (by omega) (by omega)).2.1
  show qShown _ _ [some (.int m), none, none, none, none] M
  simp only [qShown, dDivmod, gTupD, gConsD, gNilD, res_tup, List.length_cons, List.length_nil, true_and, qSeq, qAsg, qTup, qCons, qNil, qOp, qUn, qC, qCall, qVar, qLst, newL_f, qIfS, qTB, qNext, qRet, qDrop, qFor, qCB, qAug, qSl, qPart, qNoPart, gNameD, gSub_eq, dInt_i, dInt0_i, dAdd_i, dCmpI_i, List.set_cons_zero, List.set_cons_succ, List.getElem?_cons_zero, List.getElem?_cons_succ, List.append_nil, z_l0, z_l1, z_l2, z_l3, z_l4, z_l5, z_l6, z_l7, z_l8, z_l9, z_l19, z_l24, z_l25, true_and]
  refine ⟨⟨by decide, by decide⟩, ⟨by decide, by decide⟩, ?_⟩
  refine str_num (by omega) (by omega) (add_s a lit_sp (by decide) ?_)
  simp only [qBM, qSeq, qAsg, qTup, qCons, qNil, qOp, qUn, qC, qCall, qVar, qLst, newL_f, qIfS, qTB, qNext, qRet, qDrop, qFor, qCB, qAug, qSl, qPart, qNoPart, gNameD, gSub_eq, dInt_i, dInt0_i, dAdd_i, dCmpI_i, List.set_cons_zero, List.set_cons_succ, List.getElem?_cons_zero, List.getElem?_cons_succ, List.append_nil, z_l0, z_l1, z_l2, z_l3, z_l4, z_l5, z_l6, z_l7, z_l8, z_l9, z_l19, z_l24, z_l25, true_and]
  refine str_num (by omega) (by omega) ⟨rfl, rfl, b.ok (by decide), ?_⟩
  refine add_s (a.app lit_sp) b (by decide) (add_s ((a.app lit_sp).app b) lit_co (by decide) ?_)
  refine str_num (by omega) (by omega) ⟨rfl, rfl, c.ok (by decide), ?_⟩
  exact add_s (((a.app lit_sp).app b).app lit_co) c (by decide) k
def to_R0 (c_Row : Addr) (sp_shown : DSp) : DTS := (qAsg (qOp (dAdd true) (qLst false (qCons (qCB dStr (qCons (qFld c_Row FRow 0 (qVar 0)) qNil)) (qCons (qCall sp_shown [] (qCons (qFld c_Row FRow 1 (qVar 0)) qNil)) (qCons (qCall sp_shown [] (qCons (qFld c_Row FRow 2 (qVar 0)) qNil)) qNil)))) (qLc false (qiAny (qFld c_Row FRow 3 (qVar 0))) (gNameD 2) qYes (qCB dStr (qCons (qVar 2) qNil)) [2])) (gNameD 1))
def to_R1 (c_Row : Addr) (sp_shown : DSp) : DTS := (qIfS (qTB (qOp (dEq true) (qFld c_Row FRow 4 (qVar 0)) (qC (.int 0)))) (qAug 1 (qLst false (qCons (qC (.str (PySem.Str.ofString "right"))) (qCons (qCB dStr (qCons (qFld c_Row FRow 4 (qVar 0)) qNil)) qNil))) dAug) qNext)
def to_R2 (c_Row : Addr) (sp_shown : DSp) : DTS := (qRet (qBM "str" mJoin (qC (.str (PySem.Str.ofString " "))) (qCons (qVar 1) qNil)))
def to_T2 (c_Row : Addr) (sp_shown : DSp) : DTS := to_R2 c_Row sp_shown
def to_T1 (c_Row : Addr) (sp_shown : DSp) : DTS := qSeq (to_R1 c_Row sp_shown) (to_T2 c_Row sp_shown)
def to_T0 (c_Row : Addr) (sp_shown : DSp) : DTS := qSeq (to_R0 c_Row sp_shown) (to_T1 c_Row sp_shown)
theorem to_cut (c_Row : Addr) (sp_shown : DSp) : qTextOf c_Row sp_shown = to_T0 c_Row sp_shown := rfl
theorem to_t0 (c_Row : Addr) (sp_shown : DSp) {DW : DWt} {DE : DEnds} {p : Rho} {M : Mst} : to_T0 c_Row sp_shown DW DE p M = to_R0 c_Row sp_shown DW { DE with nx := to_T1 c_Row sp_shown DW DE } p M := rfl
theorem to_t1 (c_Row : Addr) (sp_shown : DSp) {DW : DWt} {DE : DEnds} {p : Rho} {M : Mst} : to_T1 c_Row sp_shown DW DE p M = to_R1 c_Row sp_shown DW { DE with nx := to_T2 c_Row sp_shown DW DE } p M := rfl
/-- a word of a deed -/
def wordS : D → Str
  | .str z => z
  | .int i => numI i
  | _ => Str.empty
def WordOk (d : D) : Prop := (∃ z, d = .str z ∧ Tx_ 20 z) ∨ ∃ i, d = .int i ∧ 0 ≤ i ∧ i ≤ 1000
theorem word_tx {d : D} (h : WordOk d) : Tx_ 20 (wordS d) := by
  rcases h with ⟨z, rfl, hz⟩ | ⟨i, rfl, h0, h1⟩
  · exact hz
  · exact (num_tx h0 h1).mono (by decide)
theorem str_word {d : D} {M : Mst} {Q : DK} (h : WordOk d) (k : Q (.str (wordS d)) M) : dStr [d] M Q := by
  rcases h with ⟨z, rfl, hz⟩ | ⟨i, rfl, h0, h1⟩
  · exact k
  · exact str_num h0 h1 k
def strF (d : D) : Option D := some (.str (wordS d))
theorem strF_map (ws : List D) : ws.filterMap strF = (ws.map wordS).map .str := by
  induction ws with
  | nil => rfl
  | cons w ws ih => rw [List.filterMap_cons, ih]; rfl
/-- the words of a row's text -/
def rowW (n w a : Int) (ws : List D) (r : Int) : List Str := [numI n, shownS w, shownS a] ++ ws.map wordS ++ (if r = 0 then [] else [lit "right", numI r])
def rowT (n w a : Int) (ws : List D) (r : Int) : Str := Txt.join sp1 (rowW n w a ws r)
structure RowTOk (n w a : Int) (ws : List D) (r : Int) : Prop where
  hn : 0 ≤ n ∧ n ≤ 1000
  hw : 0 ≤ w ∧ w ≤ 100000
  ha : 0 ≤ a ∧ a ≤ 100000
  hs : ∀ d ∈ ws, WordOk d
  hl : ws.length ≤ 100
  hr : 0 ≤ r ∧ r ≤ 1000
theorem lit_right : Tx_ 5 (lit "right") := tx_of (by decide +kernel)
theorem rowW_tx {n w a : Int} {ws : List D} {r : Int} (h : RowTOk n w a ws r) : ∀ y ∈ rowW n w a ws r, Tx_ 20 y := by
  intro y hy
  unfold rowW at hy
  rcases List.mem_append.mp hy with hy | hy
  · rcases List.mem_append.mp hy with hy | hy
    · simp only [List.mem_cons, List.not_mem_nil, or_false] at hy
      rcases hy with rfl | rfl | rfl
      · exact (num_tx h.hn.1 h.hn.2).mono (by decide)
      · exact (shown_tx h.hw.1 h.hw.2).mono (by decide)
      · exact (shown_tx h.ha.1 h.ha.2).mono (by decide)
    · obtain ⟨d, hd, rfl⟩ := List.mem_map.mp hy
      exact word_tx (h.hs d hd)
  · split at hy
    · cases hy
    · simp only [List.mem_cons, List.not_mem_nil, or_false] at hy
      rcases hy with rfl | rfl
      · exact lit_right.mono (by decide)
      · exact (num_tx h.hr.1 h.hr.2).mono (by decide)
theorem rowW_len (n w a : Int) (ws : List D) (r : Int) : (rowW n w a ws r).length ≤ ws.length + 5 := by
  unfold rowW; simp; split <;> simp <;> omega
theorem wt_le {m : Nat} : ∀ ys : List Str, (∀ y ∈ ys, y.length ≤ m) → wt ys ≤ ys.length * (m + 1) := fun ys h => by
  have := sum_le (m := m) ys h
  unfold wt
  rw [Nat.mul_add, Nat.mul_one]; omega
theorem rowW_wt {n w a : Int} {ws : List D} {r : Int} (h : RowTOk n w a ws r) : wt (rowW n w a ws r) ≤ 2205 := by
  have h1 := wt_le (m := 20) _ fun y hy => (rowW_tx h y hy).len
  have h2 := rowW_len n w a ws r
  have h3 := h.hl
  have : (rowW n w a ws r).length * (20 + 1) ≤ 105 * 21 := Nat.mul_le_mul_right _ (by omega)
  omega
def spText (c : Addr) : DSp := fun ds M Q _ => ∃ (n w a : Int) (ws : List D) (r : Int), ds = [.ins c FRow [.int n, .int w, .int a, .tup ws, .int r]] ∧ RowTOk n w a ws r ∧ ∀ M', Sub M M' → Q (.str (rowT n w a ws r)) M'
theorem text_ok (c : Addr) (ds : List D) (M : Mst) (Q : DK) (Ed : DX → Mst → Prop) (h : upSp (spText c) ds M Q Ed) : qTextOf c spShown (fun x _ M => Ed x M) (retE Q) (startD ["row", "words", "word"] ds) M := by
  obtain ⟨Q0, E0, ⟨n, w, a, ws, r, rfl, hO, k0⟩, kq, _⟩ := h
  have k : ∀ M', Sub M M' → Q (.str (rowT n w a ws r)) M' := fun M' s => kq _ _ _ (Sub.refl _) (k0 M' s)
  clear kq k0
  have wr := hO.hl
  have rt := rowW_tx hO
  have rw_ := rowW_wt hO
  have ro := hO.hr
  rw [to_cut, to_t0]
  show to_R0 _ _ _ _ [some (.ins c FRow [.int n, .int w, .int a, .tup ws, .int r]), none, none] M
  simp only [to_R0, qFld, insD_i, List.take_length, qLc, qiAny, res_tup, qSeq, qAsg, qTup, qCons, qNil, qOp, qUn, qC, qCall, qVar, qLst, newL_f, qIfS, qTB, qNext, qRet, qDrop, qFor, qCB, qAug, qSl, qPart, qNoPart, gNameD, gSub_eq, dInt_i, dInt0_i, dAdd_i, dCmpI_i, List.set_cons_zero, List.set_cons_succ, List.getElem?_cons_zero, List.getElem?_cons_succ, List.append_nil, z_l0, z_l1, z_l2, z_l3, z_l4, z_l5, z_l6, z_l7, z_l8, z_l9, z_l19, z_l24, z_l25, true_and]
  refine str_num hO.hn.1 hO.hn.2 ?_
  refine ⟨w, rfl, hO.hw.1, hO.hw.2, ?_⟩
  refine ⟨a, rfl, hO.ha.1, hO.ha.2, ?_⟩
  intro l hl
  refine compL_map hl strF (fun _ => trivial) (by omega) (fun d hd acc R hR => ?_) ?_
  · simp only [wipeD, qYes, if_true, qSeq, qAsg, qTup, qCons, qNil, qOp, qUn, qC, qCall, qVar, qLst, newL_f, qIfS, qTB, qNext, qRet, qDrop, qFor, qCB, qAug, qSl, qPart, qNoPart, gNameD, gSub_eq, dInt_i, dInt0_i, dAdd_i, dCmpI_i, List.set_cons_zero, List.set_cons_succ, List.getElem?_cons_zero, List.getElem?_cons_succ, List.append_nil, z_l0, z_l1, z_l2, z_l3, z_l4, z_l5, z_l6, z_l7, z_l8, z_l9, z_l19, z_l24, z_l25, true_and]
    exact str_word (hO.hs d hd) hR
  simp only [Bool.false_eq_true, if_false, strF_map]
  have e0 : [D.str (numI n), D.str (shownS w), D.str (shownS a)] ++ (ws.map wordS).map D.str = ([numI n, shownS w, shownS a] ++ ws.map wordS).map D.str := by simp
  unfold dAdd
  simp only [res_lst, newL_t]
  refine ⟨by simp; omega, fun x hx => ?_⟩
  rw [e0]
  have tail : ∀ (y : D) (zs : List Str) (M' : Mst), res M' y = .lst (zs.map .str) → Sub M M' → zs = rowW n w a ws r → to_T2 c spShown (fun x _ M => Ed x M) (retE Q) [some (.ins c FRow [.int n, .int w, .int a, .tup ws, .int r]), some y, none] M' := fun y zs M' hy s hz => by
    subst hz
    simp only [to_T2, to_R2, qBM, qSeq, qAsg, qTup, qCons, qNil, qOp, qUn, qC, qCall, qVar, qLst, newL_f, qIfS, qTB, qNext, qRet, qDrop, qFor, qCB, qAug, qSl, qPart, qNoPart, gNameD, gSub_eq, dInt_i, dInt0_i, dAdd_i, dCmpI_i, List.set_cons_zero, List.set_cons_succ, List.getElem?_cons_zero, List.getElem?_cons_succ, List.append_nil, z_l0, z_l1, z_l2, z_l3, z_l4, z_l5, z_l6, z_l7, z_l8, z_l9, z_l19, z_l24, z_l25, true_and]
    refine ⟨rfl, join_sp1 hy (fun z hz => (rt z hz).pr) rw_ (by decide) fun _ => k M' s⟩
  show to_T1 _ _ _ _ _ _
  rw [to_t1]
  show to_R1 _ _ _ _ _ _
  simp only [to_R1, qFld, insD_i, List.take_length, z_ne_int, qSeq, qAsg, qTup, qCons, qNil, qOp, qUn, qC, qCall, qVar, qLst, newL_f, qIfS, qTB, qNext, qRet, qDrop, qFor, qCB, qAug, qSl, qPart, qNoPart, gNameD, gSub_eq, dInt_i, dInt0_i, dAdd_i, dCmpI_i, List.set_cons_zero, List.set_cons_succ, List.getElem?_cons_zero, List.getElem?_cons_succ, List.append_nil, z_l0, z_l1, z_l2, z_l3, z_l4, z_l5, z_l6, z_l7, z_l8, z_l9, z_l19, z_l24, z_l25, true_and]
  by_cases c0 : r = 0
  · rw [decide_eq_true c0]
    simp only [Bool.not_true, Bool.false_eq_true, if_false]
    exact tail (.ref x) _ _ (res_r put_same) (Sub.put (Sub.refl M) hx) (by unfold rowW; rw [if_pos c0, List.append_nil])
  · rw [decide_eq_false c0]
    simp only [Bool.not_false, if_true]
    refine str_num ro.1 ro.2 ?_
    unfold dAug
    simp only [put_same, res_lst, put_put]
    refine ⟨by simp; omega, tail (.ref x) ([numI n, shownS w, shownS a] ++ ws.map wordS ++ [lit "right", numI r]) _ (res_r (by rw [put_same]; simp)) (Sub.put (Sub.refl M) hx) (by unfold rowW; rw [if_neg c0])⟩
def spRowStr (c : Addr) : DSp := fun ds M Q _ => ∃ (n w a : Int) (ws : List D) (r : Int), ds = [.ins c FRow [.int n, .int w, .int a, .tup ws, .int r]] ∧ RowTOk n w a ws r ∧ ∀ M', Sub M M' → Q (.str (rowT n w a ws r)) M'
theorem rowstr_ok (c : Addr) (ds : List D) (M : Mst) (Q : DK) (Ed : DX → Mst → Prop) (h : upSp (spRowStr c) ds M Q Ed) : qRowStr (spText c) (fun x _ M => Ed x M) (retE Q) (startD ["self"] ds) M := by
  obtain ⟨Q0, E0, ⟨n, w, a, ws, r, rfl, hO, k0⟩, kq, _⟩ := h
  have k : ∀ M', Sub M M' → Q (.str (rowT n w a ws r)) M' := fun M' s => kq _ _ _ (Sub.refl _) (k0 M' s)
  show qRowStr _ _ _ [some (.ins c FRow [.int n, .int w, .int a, .tup ws, .int r])] M
  simp only [qRowStr, qSeq, qAsg, qTup, qCons, qNil, qOp, qUn, qC, qCall, qVar, qLst, newL_f, qIfS, qTB, qNext, qRet, qDrop, qFor, qCB, qAug, qSl, qPart, qNoPart, gNameD, gSub_eq, dInt_i, dInt0_i, dAdd_i, dCmpI_i, List.set_cons_zero, List.set_cons_succ, List.getElem?_cons_zero, List.getElem?_cons_succ, List.append_nil, z_l0, z_l1, z_l2, z_l3, z_l4, z_l5, z_l6, z_l7, z_l8, z_l9, z_l19, z_l24, z_l25, true_and]
  exact ⟨n, w, a, ws, r, rfl, hO, fun M' s => k M' s⟩
theorem empty_app (x : Str) : Str.empty ++ x = x := by
  apply PySem.Str.ext'
  show #[] ++ x.cps = x.cps
  simp
def rowR (n : Int) : Str := lit "Row(" ++ numI n ++ lit ")"
def spRowRepr (c : Addr) : DSp := fun ds M Q _ => ∃ (n : Int) (l : List D), ds = [.ins c FRow (.int n :: l)] ∧ 0 ≤ n ∧ n ≤ 1000 ∧ Q (.str (rowR n)) M
theorem rowrepr_ok (c : Addr) (ds : List D) (M : Mst) (Q : DK) (Ed : DX → Mst → Prop) (h : upSp (spRowRepr c) ds M Q Ed) : qRowRepr c (fun x _ M => Ed x M) (retE Q) (startD ["self"] ds) M := by
  obtain ⟨Q0, E0, ⟨n, l, rfl, h0, h1, k0⟩, kq, _⟩ := h
  have k := kq _ _ _ (Sub.refl _) k0
  show qRowRepr _ _ _ [some (.ins c FRow (.int n :: l))] M
  have t := num_tx h0 h1
  simp only [qRowRepr, qJs, qFmt, qFld, insD_i, List.take_length, empty_app, qSeq, qAsg, qTup, qCons, qNil, qOp, qUn, qC, qCall, qVar, qLst, newL_f, qIfS, qTB, qNext, qRet, qDrop, qFor, qCB, qAug, qSl, qPart, qNoPart, gNameD, gSub_eq, dInt_i, dInt0_i, dAdd_i, dCmpI_i, List.set_cons_zero, List.set_cons_succ, List.getElem?_cons_zero, List.getElem?_cons_succ, List.append_nil, z_l0, z_l1, z_l2, z_l3, z_l4, z_l5, z_l6, z_l7, z_l8, z_l9, z_l19, z_l24, z_l25, true_and]
  have t2 : Tx_ 4 (lit "Row(") := tx_of (by decide +kernel)
  have t3 : Tx_ 1 (lit ")") := tx_of (by decide +kernel)
  refine ⟨Nat.le_trans t2.len (by rw [sizeLine_eq]; decide), ?_⟩
  exact ⟨num_log h0 h1, t.ok (by decide), Nat.le_trans (t2.app t).len (by rw [sizeLine_eq]; decide), Nat.le_trans ((t2.app t).app t3).len (by rw [sizeLine_eq]; decide), k⟩
end DL
namespace DL
open PySem L2 Tx20 Tx21
def qHLike (sp__law_like : DSp) : DTS :=
  (qSeq (qIfS (qOr (qTB (qOp (dEq true) (qCB dIsi (qCons (qVar 0) (qCons (qC (.ty "bool")) qNil))) (qCB dIsi (qCons (qVar 1) (qCons (qC (.ty "bool")) qNil))))) (qTB (qOp (dEq true) (qVar 0) (qVar 1))))
  (qRet (qC (.bl false)))
  qNext)
  (qSeq (qIfS (qTB (qCB dIsi (qCons (qVar 0) (qCons (qTup (qCons (qC (.ty "list")) (qCons (qC (.ty "tuple")) qNil))) qNil))))
  (qRet (qCB dAll (qCons (qLc false (qiZipB (qCons (qVar 0) (qCons (qVar 1) qNil))) (gTupD 2 (gConsD (gNameD 2) (gConsD (gNameD 3) gNilD))) qYes (qCall sp__law_like [] (qCons (qVar 2) (qCons (qVar 3) qNil))) [2, 3]) qNil)))
  qNext)
  (qRet (qC (.bl true)))))
mutual
/-- no tuple or list in it is long -/
def sml : D → Bool
  | .tup ds => decide (ds.length ≤ 1000) && smlL ds
  | .lst ds => decide (ds.length ≤ 1000) && smlL ds
  | _ => true
def smlL : List D → Bool
  | [] => true
  | d :: ds => sml d && smlL ds
end
theorem smlL_all : ∀ ds : List D, smlL ds = ds.all sml
  | [] => rfl
  | d :: ds => by simp [smlL, smlL_all ds]
theorem plainDL_all : ∀ ds : List D, plainDL ds = ds.all plainD
  | [] => rfl
  | d :: ds => by simp [plainDL, plainDL_all ds]
mutual
theorem plain_data : ∀ d : D, plainD d = true → isData d = true
  | .non, _ => rfl
  | .bl _, _ => rfl
  | .int _, _ => rfl
  | .str _, _ => rfl
  | .tup ds, h => plainL_data ds h
  | .lst ds, h => plainL_data ds h
  | .ktp _, h => by cases h
  | .xtp _, h => by cases h
  | .scr _, h => by cases h
  | .ty _, h => by cases h
  | .ref _, h => by cases h
  | .dct _ _, h => by cases h
  | .ins _ _ _, h => by cases h
  | .exc _ _ _ _, h => by cases h
  | .fnv _ _ _ _ _, h => by cases h
theorem plainL_data : ∀ ds : List D, plainDL ds = true → isDataL ds = true
  | [], _ => rfl
  | d :: ds, h => by
    have h' : plainD d = true ∧ plainDL ds = true := by simpa [plainDL] using h
    simp [isDataL, plain_data d h'.1, plainL_data ds h'.2]
end
theorem mem_zip_self {es : List D} {d : D} (h : d ∈ zipD es es) : ∃ e ∈ es, d = .tup [e, e] := by
  induction es with
  | nil => cases h
  | cons e es ih =>
    rw [show zipD (e :: es) (e :: es) = .tup [e, e] :: zipD es es from rfl] at h
    rcases List.mem_cons.mp h with rfl | h
    · exact ⟨e, List.mem_cons_self .., rfl⟩
    · obtain ⟨x, hx, e2⟩ := ih h
      exact ⟨x, List.mem_cons_of_mem _ hx, e2⟩
theorem zip_self_len (es : List D) : (zipD es es).length = es.length := by
  induction es with
  | nil => rfl
  | cons e es ih => rw [show zipD (e :: es) (e :: es) = .tup [e, e] :: zipD es es from rfl, List.length_cons, ih, List.length_cons]
theorem all_true (l : List D) {M : Mst} {Q : DK} : dAll [.lst (l.filterMap fun _ => some (D.bl true))] M Q = Q (.bl true) M := by
  have e : l.filterMap (fun _ => some (D.bl true)) = (l.map fun _ => true).map D.bl := by
    induction l with
    | nil => rfl
    | cons x l ih => rw [List.filterMap_cons, ih]; rfl
  rw [e, all_bls]
  have : (l.map fun _ => true).all id = true := by rw [List.all_eq_true]; intro x hx; obtain ⟨_, _, rfl⟩ := List.mem_map.mp hx; rfl
  rw [this]
/-- what _law_like is asked of one thing twice -/
structure LikeOk (n : Nat) (d : D) : Prop where
  p : plainD d = true
  s : sml d = true
  d : dep d < n
  n : n ≤ 60
def spLike (n : Nat) : DSp := fun ds M Q _ => ∃ d : D, ds = [d, d] ∧ LikeOk n d ∧ Q (.bl true) M
theorem like_ok (n : Nat) (p : DSp) (hp : ∀ d M Q E, LikeOk n d → Q (.bl true) M → p [d, d] M Q E) (ds : List D) (M : Mst) (Q : DK) (Ed : DX → Mst → Prop) (h : upSp (spLike (n + 1)) ds M Q Ed) : qHLike p (fun x _ M => Ed x M) (retE Q) (startD ["_law_told", "_law_due", "_law_one", "_law_other_here"] ds) M := by
  obtain ⟨Q0, E0, ⟨d, rfl, ⟨pd, sd, dd, n6⟩, k0⟩, kq, _⟩ := h
  have k := kq _ _ _ (Sub.refl _) k0
  clear kq k0
  show qHLike _ _ _ [some d, some d, none, none] M
  have eqs : ∀ R, res M d = d → dEq true d d M R = R (.bl false) M := fun R hr => by
    rw [eq_same hr hr (plain_data d pd) (by omega)]; rfl
  have deep : ∀ (Sty : Mst → Prop), (∀ M, Sty M) → ∀ es : List D, plainDL es = true → smlL es = true → es.length ≤ 1000 → (∀ e ∈ es, dep e < n) → ∀ a, M a = none → ∀ p0 : Rho, p0.length = 4 → ∀ R : DK, R (.lst ((zipD es es).filterMap fun _ => some (D.bl true))) M →
      compL false Sty (gTupD 2 (gConsD (gNameD 2) (gConsD (gNameD 3) gNilD))) qYes (qCall p [] (qCons (qVar 2) (qCons (qVar 3) qNil))) [2, 3] a p0 R (zipD es es) (put M a (.lst [])) := fun Sty hS es h1 h2 h3 h4 a ha p0 hl R hR => by
    refine compL_map ha (fun _ => some (D.bl true)) (fun _ => hS _) (by rw [zip_self_len]; omega) (fun d hd acc R2 hR2 => ?_) hR
    obtain ⟨e, he, rfl⟩ := mem_zip_self hd
    match p0, hl with
    | [y0, y1, y2, y3], _ =>
      simp only [wipeD, gTupD, gConsD, gNilD, res_tup, List.length_cons, List.length_nil, true_and, qYes, if_true, qSeq, qAsg, qTup, qCons, qNil, qOp, qUn, qC, qCall, qVar, qLst, newL_f, qIfS, qTB, qNext, qRet, qDrop, qFor, qCB, qAug, qSl, qPart, qNoPart, gNameD, gSub_eq, dInt_i, dInt0_i, dAdd_i, dCmpI_i, List.set_cons_zero, List.set_cons_succ, List.getElem?_cons_zero, List.getElem?_cons_succ, List.append_nil, z_l0, z_l1, z_l2, z_l3, z_l4, z_l5, z_l6, z_l7, z_l8, z_l9, z_l19, z_l24, z_l25, true_and]
      refine hp e _ _ _ ⟨?_, ?_, h4 e he, by omega⟩ hR2
      · rw [plainDL_all, List.all_eq_true] at h1; exact h1 e he
      · rw [smlL_all, List.all_eq_true] at h2; exact h2 e he
  have i1 : ∀ (x : D) (t : String) (M : Mst) (R : DK), hasTy (res M x) = true → tyD (res M x) = t → isiL t [.ty "list", .ty "tuple"] = some false → dIsi [x, .tup [.ty "list", .ty "tuple"]] M R = R (.bl false) M := fun x t M R h1 h2 h3 => isi_tup h1 (by rw [h2]; exact h3)
  have i2 : ∀ (x : D) (t : String) (M : Mst) (R : DK), hasTy (res M x) = true → tyD (res M x) = t → isiL t [.ty "list", .ty "tuple"] = some true → dIsi [x, .tup [.ty "list", .ty "tuple"]] M R = R (.bl true) M := fun x t M R h1 h2 h3 => isi_tup h1 (by rw [h2]; exact h3)
  cases d with
  | non =>
    simp only [qHLike, qOr, z_isi_non_bool, z_ne_bl, decide_true, Bool.not_true, Bool.false_eq_true, if_false, eqs _ rfl, i1 .non "NoneType" _ _ rfl rfl (by decide +kernel), qSeq, qAsg, qTup, qCons, qNil, qOp, qUn, qC, qCall, qVar, qLst, newL_f, qIfS, qTB, qNext, qRet, qDrop, qFor, qCB, qAug, qSl, qPart, qNoPart, gNameD, gSub_eq, dInt_i, dInt0_i, dAdd_i, dCmpI_i, List.set_cons_zero, List.set_cons_succ, List.getElem?_cons_zero, List.getElem?_cons_succ, List.append_nil, z_l0, z_l1, z_l2, z_l3, z_l4, z_l5, z_l6, z_l7, z_l8, z_l9, z_l19, z_l24, z_l25, true_and]
    exact k
  | bl b =>
    simp only [qHLike, qOr, z_isi_bl_bool, z_ne_bl, decide_true, Bool.not_true, Bool.false_eq_true, if_false, eqs _ rfl, i1 (.bl b) "bool" _ _ rfl rfl (by decide +kernel), qSeq, qAsg, qTup, qCons, qNil, qOp, qUn, qC, qCall, qVar, qLst, newL_f, qIfS, qTB, qNext, qRet, qDrop, qFor, qCB, qAug, qSl, qPart, qNoPart, gNameD, gSub_eq, dInt_i, dInt0_i, dAdd_i, dCmpI_i, List.set_cons_zero, List.set_cons_succ, List.getElem?_cons_zero, List.getElem?_cons_succ, List.append_nil, z_l0, z_l1, z_l2, z_l3, z_l4, z_l5, z_l6, z_l7, z_l8, z_l9, z_l19, z_l24, z_l25, true_and]
    exact k
  | int i =>
    simp only [qHLike, qOr, z_isi_int_bool, z_ne_bl, decide_true, Bool.not_true, Bool.false_eq_true, if_false, eqs _ rfl, i1 (.int i) "int" _ _ rfl rfl (by decide +kernel), qSeq, qAsg, qTup, qCons, qNil, qOp, qUn, qC, qCall, qVar, qLst, newL_f, qIfS, qTB, qNext, qRet, qDrop, qFor, qCB, qAug, qSl, qPart, qNoPart, gNameD, gSub_eq, dInt_i, dInt0_i, dAdd_i, dCmpI_i, List.set_cons_zero, List.set_cons_succ, List.getElem?_cons_zero, List.getElem?_cons_succ, List.append_nil, z_l0, z_l1, z_l2, z_l3, z_l4, z_l5, z_l6, z_l7, z_l8, z_l9, z_l19, z_l24, z_l25, true_and]
    exact k
  | str z =>
    simp only [qHLike, qOr, z_isi_str_bool, z_ne_bl, decide_true, Bool.not_true, Bool.false_eq_true, if_false, eqs _ rfl, i1 (.str z) "str" _ _ rfl rfl (by decide +kernel), qSeq, qAsg, qTup, qCons, qNil, qOp, qUn, qC, qCall, qVar, qLst, newL_f, qIfS, qTB, qNext, qRet, qDrop, qFor, qCB, qAug, qSl, qPart, qNoPart, gNameD, gSub_eq, dInt_i, dInt0_i, dAdd_i, dCmpI_i, List.set_cons_zero, List.set_cons_succ, List.getElem?_cons_zero, List.getElem?_cons_succ, List.append_nil, z_l0, z_l1, z_l2, z_l3, z_l4, z_l5, z_l6, z_l7, z_l8, z_l9, z_l19, z_l24, z_l25, true_and]
    exact k
  | tup es =>
    have s2 : es.length ≤ 1000 ∧ smlL es = true := by simpa [sml] using sd
    simp only [qHLike, qOr, z_isi_tup_bool, z_ne_bl, decide_true, Bool.not_true, Bool.false_eq_true, if_false, eqs _ res_tup, i2 (.tup es) "tuple" _ _ rfl rfl (by decide +kernel), if_true, qLc, qiZipB, qSeq, qAsg, qTup, qCons, qNil, qOp, qUn, qC, qCall, qVar, qLst, newL_f, qIfS, qTB, qNext, qRet, qDrop, qFor, qCB, qAug, qSl, qPart, qNoPart, gNameD, gSub_eq, dInt_i, dInt0_i, dAdd_i, dCmpI_i, List.set_cons_zero, List.set_cons_succ, List.getElem?_cons_zero, List.getElem?_cons_succ, List.append_nil, z_l0, z_l1, z_l2, z_l3, z_l4, z_l5, z_l6, z_l7, z_l8, z_l9, z_l19, z_l24, z_l25, true_and]
    refine .inr ?_
    show ∀ a, M a = none → _
    intro a ha
    refine deep always (fun _ => trivial) es pd s2.2 s2.1 (fun e he => by have := dep_in_tup he; omega) a ha _ rfl _ ?_
    rw [all_true]; exact k
  | lst es =>
    have s2 : es.length ≤ 1000 ∧ smlL es = true := by simpa [sml] using sd
    simp only [qHLike, qOr, z_isi_lst_bool, z_ne_bl, decide_true, Bool.not_true, Bool.false_eq_true, if_false, eqs _ res_lst, i2 (.lst es) "list" _ _ rfl rfl (by decide +kernel), if_true, qLc, qiZipB, qSeq, qAsg, qTup, qCons, qNil, qOp, qUn, qC, qCall, qVar, qLst, newL_f, qIfS, qTB, qNext, qRet, qDrop, qFor, qCB, qAug, qSl, qPart, qNoPart, gNameD, gSub_eq, dInt_i, dInt0_i, dAdd_i, dCmpI_i, List.set_cons_zero, List.set_cons_succ, List.getElem?_cons_zero, List.getElem?_cons_succ, List.append_nil, z_l0, z_l1, z_l2, z_l3, z_l4, z_l5, z_l6, z_l7, z_l8, z_l9, z_l19, z_l24, z_l25, true_and]
    refine .inl ?_
    show ∀ a, M a = none → _
    intro a ha
    refine deep _ (fun _ => ⟨trivial, trivial⟩) es pd s2.2 s2.1 (fun e he => by have := dep_in_lst he; omega) a ha _ rfl _ ?_
    rw [all_true]; exact k
  | _ => cases pd
end DL
namespace K24
open PySem L2 DL
def top (i : Nat) : Stmt := PySem.Challenge.pw_whistleboard_k24_rows.main.body.getD i (.Pass ⟨0, 0, 0, 0⟩)
abbrev F_Row : List Str := [(PySem.Str.ofString "number"), (PySem.Str.ofString "written"), (PySem.Str.ofString "at"), (PySem.Str.ofString "deed"), (PySem.Str.ofString "right")]
abbrev s_shown : Stmt := top 3
abbrev N_shown : List Str := ["minute", "day", "rest", "hour", "left"]
theorem sc_shown : FnScope N_shown ["minute"] (defScope s_shown) := ⟨rfl, rfl, rfl, by decide +kernel, rfl, by decide +kernel, by decide +kernel⟩
abbrev s_text_of : Stmt := top 5
abbrev N_text_of : List Str := ["row", "words", "word"]
theorem sc_text_of : FnScope N_text_of ["row"] (defScope s_text_of) := ⟨rfl, rfl, rfl, by decide +kernel, rfl, by decide +kernel, by decide +kernel⟩
abbrev s_Row___init__ : Stmt := inClass (top 6) 0
abbrev N_Row___init__ : List Str := ["self", "number", "written", "at", "deed", "right"]
theorem sc_Row___init__ : FnScope N_Row___init__ ["self", "number", "written", "at", "deed", "right"] (defScope s_Row___init__) := ⟨rfl, rfl, rfl, by decide +kernel, rfl, by decide +kernel, by decide +kernel⟩
abbrev s_Row_five : Stmt := inClass (top 6) 1
abbrev N_Row_five : List Str := ["self"]
theorem sc_Row_five : FnScope N_Row_five ["self"] (defScope s_Row_five) := ⟨rfl, rfl, rfl, by decide +kernel, rfl, by decide +kernel, by decide +kernel⟩
abbrev s_Row___eq__ : Stmt := inClass (top 6) 2
abbrev N_Row___eq__ : List Str := ["self", "other"]
theorem sc_Row___eq__ : FnScope N_Row___eq__ ["self", "other"] (defScope s_Row___eq__) := ⟨rfl, rfl, rfl, by decide +kernel, rfl, by decide +kernel, by decide +kernel⟩
abbrev s_Row___str__ : Stmt := inClass (top 6) 3
abbrev N_Row___str__ : List Str := ["self"]
theorem sc_Row___str__ : FnScope N_Row___str__ ["self"] (defScope s_Row___str__) := ⟨rfl, rfl, rfl, by decide +kernel, rfl, by decide +kernel, by decide +kernel⟩
abbrev s_Row___repr__ : Stmt := inClass (top 6) 4
abbrev N_Row___repr__ : List Str := ["self"]
theorem sc_Row___repr__ : FnScope N_Row___repr__ ["self"] (defScope s_Row___repr__) := ⟨rfl, rfl, rfl, by decide +kernel, rfl, by decide +kernel, by decide +kernel⟩
abbrev s__law_bag : Stmt := top 8
abbrev N__law_bag : List Str := ["_law_script", "_law_spot", "_law_cell", "_law_great", "_law_primes"]
theorem sc__law_bag : FnScope N__law_bag ["_law_script", "_law_spot"] (defScope s__law_bag) := ⟨rfl, rfl, rfl, by decide +kernel, rfl, by decide +kernel, by decide +kernel⟩
abbrev s__law_take : Stmt := top 9
abbrev N__law_take : List Str := ["_law_bag_here", "_law_many", "_law_digit"]
theorem sc__law_take : FnScope N__law_take ["_law_bag_here", "_law_many"] (defScope s__law_take) := ⟨rfl, rfl, rfl, by decide +kernel, rfl, by decide +kernel, by decide +kernel⟩
abbrev s__law_names : Stmt := top 10
abbrev N__law_names : List Str := ["_law_bag_here", "_law_many", "_law_letters", "_law_found", "_law_k", "_law_size", "_law_stem", "_law_turn"]
theorem sc__law_names : FnScope N__law_names ["_law_bag_here", "_law_many"] (defScope s__law_names) := ⟨rfl, rfl, rfl, by decide +kernel, rfl, by decide +kernel, by decide +kernel⟩
abbrev s__law_ground : Stmt := top 11
abbrev N__law_ground : List Str := ["_law_bag_here", "_law_many", "_law_names_here", "_law_places", "_law_most", "_law_pairs", "_law_k", "_law_one", "_law_other_here", "_law_roads", "_law_slow", "_law_stations", "_law_place", "_law_name"]
theorem sc__law_ground : FnScope N__law_ground ["_law_bag_here"] (defScope s__law_ground) := ⟨rfl, rfl, rfl, by decide +kernel, rfl, by decide +kernel, by decide +kernel⟩
abbrev s__law_engines : Stmt := top 12
abbrev N__law_engines : List Str := ["_law_bag_here", "_law_stations", "_law_many", "_law_found", "_law_name", "_law_sort"]
theorem sc__law_engines : FnScope N__law_engines ["_law_bag_here", "_law_stations"] (defScope s__law_engines) := ⟨rfl, rfl, rfl, by decide +kernel, rfl, by decide +kernel, by decide +kernel⟩
abbrev s__law_deed : Stmt := top 13
abbrev N__law_deed : List Str := ["_law_bag_here", "_law_told", "_law_engines_here", "_law_calls", "_law_places", "_law_roads", "_law_stations", "_law_name", "_law_call", "_law_way"]
theorem sc__law_deed : FnScope N__law_deed ["_law_bag_here", "_law_told", "_law_engines_here", "_law_calls"] (defScope s__law_deed) := ⟨rfl, rfl, rfl, by decide +kernel, rfl, by decide +kernel, by decide +kernel⟩
abbrev s__law_kind : Stmt := top 14
abbrev N__law_kind : List Str := ["_law_bag_here"]
theorem sc__law_kind : FnScope N__law_kind ["_law_bag_here"] (defScope s__law_kind) := ⟨rfl, rfl, rfl, by decide +kernel, rfl, by decide +kernel, by decide +kernel⟩
abbrev s__law_like : Stmt := top 15
abbrev N__law_like : List Str := ["_law_told", "_law_due", "_law_one", "_law_other_here"]
theorem sc__law_like : FnScope N__law_like ["_law_told", "_law_due"] (defScope s__law_like) := ⟨rfl, rfl, rfl, by decide +kernel, rfl, by decide +kernel, by decide +kernel⟩
abbrev s__law_shown : Stmt := top 16
abbrev N__law_shown : List Str := ["_law_minute", "_law_hour", "_law_rest"]
theorem sc__law_shown : FnScope N__law_shown ["_law_minute"] (defScope s__law_shown) := ⟨rfl, rfl, rfl, by decide +kernel, rfl, by decide +kernel, by decide +kernel⟩
abbrev s__law_text : Stmt := top 17
abbrev N__law_text : List Str := ["_law_five_here", "_law_words", "_law_one"]
theorem sc__law_text : FnScope N__law_text ["_law_five_here"] (defScope s__law_text) := ⟨rfl, rfl, rfl, by decide +kernel, rfl, by decide +kernel, by decide +kernel⟩
abbrev s__law_five : Stmt := top 18
abbrev N__law_five : List Str := ["_law_bag_here", "_law_told", "_law_engines_here", "_law_what", "_law_late", "_law_early", "_law_place"]
theorem sc__law_five : FnScope N__law_five ["_law_bag_here", "_law_told", "_law_engines_here"] (defScope s__law_five) := ⟨rfl, rfl, rfl, by decide +kernel, rfl, by decide +kernel, by decide +kernel⟩
abbrev s__law_other : Stmt := top 19
abbrev N__law_other : List Str := ["_law_bag_here", "_law_five_here", "_law_what", "_law_k", "_law_value"]
theorem sc__law_other : FnScope N__law_other ["_law_bag_here", "_law_five_here", "_law_what"] (defScope s__law_other) := ⟨rfl, rfl, rfl, by decide +kernel, rfl, by decide +kernel, by decide +kernel⟩
abbrev s__law_is_told : Stmt := top 20
abbrev N__law_is_told : List Str := ["_law_row", "_law_five_here", "_law_told", "_law_thing"]
theorem sc__law_is_told : FnScope N__law_is_told ["_law_row", "_law_five_here"] (defScope s__law_is_told) := ⟨rfl, rfl, rfl, by decide +kernel, rfl, by decide +kernel, by decide +kernel⟩
abbrev s_law : Stmt := top 21
abbrev N_law : List Str := ["_law_script", "_law_bag_here", "_law_told", "_law_engines_here", "_law_rows", "_law_fives", "_law_k", "_law_five_here", "_law_row", "_law_twin", "_law_other_here", "_law_far", "_law_alike", "_law_alone"]
theorem sc_law : FnScope N_law ["_law_script"] (defScope s_law) := ⟨rfl, rfl, rfl, by decide +kernel, rfl, by decide +kernel, by decide +kernel⟩
structure Tx (w : World) (K : PySem.W.Frag) (mg : Str → Option Value) where
  c_Row : ClsO K mg "Row" F_Row
  s_Row : IsC K c_Row.C
  ne_Row : PySem.W.findIn K (.ref c_Row.C) "__ne__" = some (some (.builtin "object.__ne__"))
  ob_Row : PySem.W.mroIn K c_Row.C (.type "object") = some true
  f_shown : FnAt K mg "shown" s_shown ["minute"]
  f_text_of : FnAt K mg "text_of" s_text_of ["row"]
  f_Row___init__ : MthAtD K c_Row.C "__init__" "Row.__init__" s_Row___init__ ["self", "number", "written", "at", "deed", "right"] [(.int 0)]
  mk_Row : Mk K c_Row.C f_Row___init__.f
  f_Row_five : MthAt K c_Row.C "five" "Row.five" s_Row_five ["self"]
  f_Row___eq__ : MthAt K c_Row.C "__eq__" "Row.__eq__" s_Row___eq__ ["self", "other"]
  f_Row___str__ : MthAt K c_Row.C "__str__" "Row.__str__" s_Row___str__ ["self"]
  f_Row___repr__ : MthAt K c_Row.C "__repr__" "Row.__repr__" s_Row___repr__ ["self"]
  f__law_bag : FnAt K mg "_law_bag" s__law_bag ["_law_script", "_law_spot"]
  f__law_take : FnAt K mg "_law_take" s__law_take ["_law_bag_here", "_law_many"]
  f__law_names : FnAt K mg "_law_names" s__law_names ["_law_bag_here", "_law_many"]
  f__law_ground : FnAt K mg "_law_ground" s__law_ground ["_law_bag_here"]
  f__law_engines : FnAt K mg "_law_engines" s__law_engines ["_law_bag_here", "_law_stations"]
  f__law_deed : FnAt K mg "_law_deed" s__law_deed ["_law_bag_here", "_law_told", "_law_engines_here", "_law_calls"]
  f__law_kind : FnAt K mg "_law_kind" s__law_kind ["_law_bag_here"]
  f__law_like : FnAt K mg "_law_like" s__law_like ["_law_told", "_law_due"]
  f__law_shown : FnAt K mg "_law_shown" s__law_shown ["_law_minute"]
  f__law_text : FnAt K mg "_law_text" s__law_text ["_law_five_here"]
  f__law_five : FnAt K mg "_law_five" s__law_five ["_law_bag_here", "_law_told", "_law_engines_here"]
  f__law_other : FnAt K mg "_law_other" s__law_other ["_law_bag_here", "_law_five_here", "_law_what"]
  f__law_is_told : FnAt K mg "_law_is_told" s__law_is_told ["_law_row", "_law_five_here"]
  f_law : FnAt K mg "law" s_law ["_law_script"]
  n_abs : mg "abs" = none
  n_all : mg "all" = none
  n_any : mg "any" = none
  n_bool : mg "bool" = none
  n_divmod : mg "divmod" = none
  n_int : mg "int" = none
  n_isinstance : mg "isinstance" = none
  n_len : mg "len" = none
  n_list : mg "list" = none
  n_max : mg "max" = none
  n_min : mg "min" = none
  n_range : mg "range" = none
  n_repr : mg "repr" = none
  n_str : mg "str" = none
  n_tuple : mg "tuple" = none
  n_zip : mg "zip" = none
  g_DAY : GlI mg "DAY" (1440)
  g_HOUR : GlI mg "HOUR" (60)
  b_Row___init___6 : BindsD K f_Row___init__.fd ["self", "number", "written", "at", "deed", "right"] []
  b_Row___init___5 : BindsD K f_Row___init__.fd ["self", "number", "written", "at", "deed", "right"] [(.int 0)]
  kw_Row___init___1_deed_right_at_number_written : KwB K f_Row___init__.fd ["self", "number", "written", "at", "deed", "right"] 1 ["deed", "right", "at", "number", "written"] [0, 4, 5, 3, 1, 2]
  kw_Row___init___5_right : KwB K f_Row___init__.fd ["self", "number", "written", "at", "deed", "right"] 5 ["right"] [0, 1, 2, 3, 4, 5]
section
variable {P : Program} {w : World} {K : PySem.W.Frag} {mg : Str → Option Value} {base : Heap}
def q_shown : DTS :=
  (qSeq (qAsg (qCB dDivmod (qCons (qVar 0) (qCons (qC (.int 1440)) qNil))) (gTupD 2 (gConsD (gNameD 1) (gConsD (gNameD 2) gNilD))))
  (qSeq (qAsg (qCB dDivmod (qCons (qVar 2) (qCons (qC (.int 60)) qNil))) (gTupD 2 (gConsD (gNameD 3) (gConsD (gNameD 4) gNilD))))
  (qRet (qOp (dAdd false) (qOp (dAdd false) (qOp (dAdd false) (qOp (dAdd false) (qCB dStr (qCons (qVar 1) qNil)) (qC (.str (PySem.Str.ofString " ")))) (qBM "str" mZfill (qCB dStr (qCons (qVar 3) qNil)) (qCons (qC (.int 2)) qNil))) (qC (.str (PySem.Str.ofString ":")))) (qBM "str" mZfill (qCB dStr (qCons (qVar 4) qNil)) (qCons (qC (.int 2)) qNil))))))
theorem dv_shown {k : Nat} (T : Tx w K mg) {p : DSp} (hlen : ∀ ds M Q E, p ds M Q E → ds.length = 1)
    (hs : ∀ ds M Q Ed, upSp p ds M Q Ed → q_shown (fun x _ M => Ed x M) (retE Q) (startD N_shown ds) M) : FnOk P w K mg base (L2.CX P w) (k + 1) T.f_shown.f T.f_shown.fd ["minute"] (toSp K p) := by
  refine (fn_ok (p := upSp p) T.f_shown.F sc_shown (fun ds M Q E ⟨Q0, E0, h, _⟩ => hlen ds M Q0 E0 h) fun cdv A outer s H E hr tk hp => ?_).imp fun _ _ _ _ h => imp_up h
  have nd := sc_shown.nd
  have hu64 := hr.units
  have hu := Nat.lt_of_le_of_lt (Nat.add_le_add_left (show 1 ≤ 64 by decide) _) hu64
  exact ⟨_, q_shown, (qss_cons (qs_asg (ix := [1, 2]) (q_callB c_divmod rfl T.n_divmod (by decide +kernel) (qa_cons (qv 0) (qa_cons (q_globI rfl T.g_DAY) qa_nil))) (qg_tup rfl (qgs_cons (qg_nm 1 nd) (qgs_cons (qg_nm 2 nd) qgs_nil))))
  (qss_cons (qs_asg (ix := [3, 4]) (q_callB c_divmod rfl T.n_divmod (by decide +kernel) (qa_cons (qv 2) (qa_cons (q_globI rfl T.g_HOUR) qa_nil))) (qg_tup rfl (qgs_cons (qg_nm 3 nd) (qgs_cons (qg_nm 4 nd) qgs_nil))))
  (qss_one (qs_ret (q_op (o_add false) (q_op (o_add false) (q_op (o_add false) (q_op (o_add false) (q_callTy c_str rfl T.n_str (by decide +kernel) (qa_cons (qv 1) qa_nil)) q_str) (q_bm PySem.F.plainAttrs_str PySem.F.slot_str_zfill PySem.F.type_str_zfill m_zfill (q_callTy c_str rfl T.n_str (by decide +kernel) (qa_cons (qv 3) qa_nil)) (qa_cons q_int qa_nil))) q_str) (q_bm PySem.F.plainAttrs_str PySem.F.slot_str_zfill PySem.F.type_str_zfill m_zfill (q_callTy c_str rfl T.n_str (by decide +kernel) (qa_cons (qv 4) qa_nil)) (qa_cons q_int qa_nil))))))), hs⟩
def q_text_of (c_Row : Addr) (sp_shown : DSp) : DTS :=
  (qSeq (qAsg (qOp (dAdd true) (qLst false (qCons (qCB dStr (qCons (qFld c_Row F_Row 0 (qVar 0)) qNil)) (qCons (qCall sp_shown [] (qCons (qFld c_Row F_Row 1 (qVar 0)) qNil)) (qCons (qCall sp_shown [] (qCons (qFld c_Row F_Row 2 (qVar 0)) qNil)) qNil)))) (qLc false (qiAny (qFld c_Row F_Row 3 (qVar 0))) (gNameD 2) qYes (qCB dStr (qCons (qVar 2) qNil)) [2])) (gNameD 1))
  (qSeq (qIfS (qTB (qOp (dEq true) (qFld c_Row F_Row 4 (qVar 0)) (qC (.int 0))))
  (qAug 1 (qLst false (qCons (qC (.str (PySem.Str.ofString "right"))) (qCons (qCB dStr (qCons (qFld c_Row F_Row 4 (qVar 0)) qNil)) qNil))) dAug)
  qNext)
  (qRet (qBM "str" mJoin (qC (.str (PySem.Str.ofString " "))) (qCons (qVar 1) qNil)))))
theorem dv_text_of {k : Nat} (T : Tx w K mg) {sp_shown : DSp} (G_shown : FnOk P w K mg base (L2.CX P w) k T.f_shown.f T.f_shown.fd ["minute"] (toSp K sp_shown)) {p : DSp} (hlen : ∀ ds M Q E, p ds M Q E → ds.length = 1)
    (hs : ∀ ds M Q Ed, upSp p ds M Q Ed → q_text_of T.c_Row.C sp_shown (fun x _ M => Ed x M) (retE Q) (startD N_text_of ds) M) : FnOk P w K mg base (L2.CX P w) (k + 1) T.f_text_of.f T.f_text_of.fd ["row"] (toSp K p) := by
  refine (fn_ok (p := upSp p) T.f_text_of.F sc_text_of (fun ds M Q E ⟨Q0, E0, h, _⟩ => hlen ds M Q0 E0 h) fun cdv A outer s H E hr tk hp => ?_).imp fun _ _ _ _ h => imp_up h
  have nd := sc_text_of.nd
  have hu64 := hr.units
  have hu := Nat.lt_of_le_of_lt (Nat.add_le_add_left (show 1 ≤ 64 by decide) _) hu64
  exact ⟨_, q_text_of T.c_Row.C sp_shown, (qss_cons (qs_setN 1 nd (q_op (o_add true) (q_lst false (qa_cons (q_callTy c_str rfl T.n_str (by decide +kernel) (qa_cons (q_fld T.c_Row.cl (T.c_Row.no _ (by simp)) (qv 0) (fs := F_Row) (i := 0) (by decide +kernel)) qa_nil)) (qa_cons (q_call G_shown hr tk rfl T.f_shown.g T.f_shown.F.kp T.f_shown.b .nil (fun _ => rfl) (qa_cons (q_fld T.c_Row.cl (T.c_Row.no _ (by simp)) (qv 0) (fs := F_Row) (i := 1) (by decide +kernel)) qa_nil)) (qa_cons (q_call G_shown hr tk rfl T.f_shown.g T.f_shown.F.kp T.f_shown.b .nil (fun _ => rfl) (qa_cons (q_fld T.c_Row.cl (T.c_Row.no _ (by simp)) (qv 0) (fs := F_Row) (i := 2) (by decide +kernel)) qa_nil)) qa_nil)))) (q_lcX (own := [("word", 2)]) false rfl nd (qi_any (q_fld T.c_Row.cl (T.c_Row.no _ (by simp)) (qv 0) (fs := F_Row) (i := 3) (by decide +kernel))) (blkOk_by (own := [("word", 2)]) (N := N_text_of) (sc := defScope s_text_of) (by decide +kernel)) (fun _ _ _ _ _ => ⟨_, (qg_nm 2 nd)⟩) (fun _ _ _ _ _ => ⟨_, qts_nil⟩) (fun _ _ _ _ _ => ⟨_, (q_callTy c_str rfl T.n_str (by decide +kernel) (qa_cons (qv 2) qa_nil))⟩))))
  (qss_cons (qs_if (qt_cmp (o_ne hu64) (q_fld T.c_Row.cl (T.c_Row.no _ (by simp)) (qv 0) (fs := F_Row) (i := 4) (by decide +kernel)) q_int)
  (qss_one (qs_augN 1 nd (q_lst false (qa_cons q_str (qa_cons (q_callTy c_str rfl T.n_str (by decide +kernel) (qa_cons (q_fld T.c_Row.cl (T.c_Row.no _ (by simp)) (qv 0) (fs := F_Row) (i := 4) (by decide +kernel)) qa_nil)) qa_nil)))))
  qss_nil)
  (qss_one (qs_ret (q_bm PySem.F.plainAttrs_str PySem.F.slot_str_join PySem.F.type_str_join m_join q_str (qa_cons (qv 1) qa_nil)))))), hs⟩
def q_Row___init__ (c_Row : Addr) : DTS :=
  (qSeq (qSetF c_Row F_Row 0 (PySem.Str.ofString "number") (qVar 0) (qVar 1))
  (qSeq (qSetF c_Row F_Row 1 (PySem.Str.ofString "written") (qVar 0) (qVar 2))
  (qSeq (qSetF c_Row F_Row 2 (PySem.Str.ofString "at") (qVar 0) (qVar 3))
  (qSeq (qSetF c_Row F_Row 3 (PySem.Str.ofString "deed") (qVar 0) (qVar 4))
  (qSetF c_Row F_Row 4 (PySem.Str.ofString "right") (qVar 0) (qVar 5))))))
theorem dv_Row___init__ {k : Nat} (T : Tx w K mg) {p : DSp} (hlen : ∀ ds M Q E, p ds M Q E → ds.length = 6)
    (hs : ∀ ds M Q Ed, upSp p ds M Q Ed → q_Row___init__ T.c_Row.C (fun x _ M => Ed x M) (retE Q) (startD N_Row___init__ ds) M) : FnOk P w K mg base (L2.CX P w) (k + 1) T.f_Row___init__.f T.f_Row___init__.fd ["self", "number", "written", "at", "deed", "right"] (toSp K p) := by
  refine (fn_okD (p := upSp p) T.f_Row___init__.F sc_Row___init__ (fun ds M Q E ⟨Q0, E0, h, _⟩ => hlen ds M Q0 E0 h) fun cdv A outer s H E hr tk hp => ?_).imp fun _ _ _ _ h => imp_up h
  have nd := sc_Row___init__.nd
  have hu64 := hr.units
  have hu := Nat.lt_of_le_of_lt (Nat.add_le_add_left (show 1 ≤ 64 by decide) _) hu64
  exact ⟨_, q_Row___init__ T.c_Row.C, (qss_cons (qs_setF (fs := F_Row) (i := 0) T.c_Row.cl (T.c_Row.no _ (by simp)) (qv 0) (qv 1) (by decide +kernel))
  (qss_cons (qs_setF (fs := F_Row) (i := 1) T.c_Row.cl (T.c_Row.no _ (by simp)) (qv 0) (qv 2) (by decide +kernel))
  (qss_cons (qs_setF (fs := F_Row) (i := 2) T.c_Row.cl (T.c_Row.no _ (by simp)) (qv 0) (qv 3) (by decide +kernel))
  (qss_cons (qs_setF (fs := F_Row) (i := 3) T.c_Row.cl (T.c_Row.no _ (by simp)) (qv 0) (qv 4) (by decide +kernel))
  (qss_one (qs_setF (fs := F_Row) (i := 4) T.c_Row.cl (T.c_Row.no _ (by simp)) (qv 0) (qv 5) (by decide +kernel))))))), hs⟩
def q_Row_five (c_Row : Addr) : DTS :=
  (qRet (qTup (qCons (qFld c_Row F_Row 0 (qVar 0)) (qCons (qFld c_Row F_Row 1 (qVar 0)) (qCons (qFld c_Row F_Row 2 (qVar 0)) (qCons (qFld c_Row F_Row 3 (qVar 0)) (qCons (qFld c_Row F_Row 4 (qVar 0)) qNil)))))))
theorem dv_Row_five {k : Nat} (T : Tx w K mg) {p : DSp} (hlen : ∀ ds M Q E, p ds M Q E → ds.length = 1)
    (hs : ∀ ds M Q Ed, upSp p ds M Q Ed → q_Row_five T.c_Row.C (fun x _ M => Ed x M) (retE Q) (startD N_Row_five ds) M) : FnOk P w K mg base (L2.CX P w) (k + 1) T.f_Row_five.f T.f_Row_five.fd ["self"] (toSp K p) := by
  refine (fn_ok (p := upSp p) T.f_Row_five.F sc_Row_five (fun ds M Q E ⟨Q0, E0, h, _⟩ => hlen ds M Q0 E0 h) fun cdv A outer s H E hr tk hp => ?_).imp fun _ _ _ _ h => imp_up h
  have nd := sc_Row_five.nd
  have hu64 := hr.units
  have hu := Nat.lt_of_le_of_lt (Nat.add_le_add_left (show 1 ≤ 64 by decide) _) hu64
  exact ⟨_, q_Row_five T.c_Row.C, (qss_one (qs_ret (q_tup (qa_cons (q_fld T.c_Row.cl (T.c_Row.no _ (by simp)) (qv 0) (fs := F_Row) (i := 0) (by decide +kernel)) (qa_cons (q_fld T.c_Row.cl (T.c_Row.no _ (by simp)) (qv 0) (fs := F_Row) (i := 1) (by decide +kernel)) (qa_cons (q_fld T.c_Row.cl (T.c_Row.no _ (by simp)) (qv 0) (fs := F_Row) (i := 2) (by decide +kernel)) (qa_cons (q_fld T.c_Row.cl (T.c_Row.no _ (by simp)) (qv 0) (fs := F_Row) (i := 3) (by decide +kernel)) (qa_cons (q_fld T.c_Row.cl (T.c_Row.no _ (by simp)) (qv 0) (fs := F_Row) (i := 4) (by decide +kernel)) qa_nil)))))))), hs⟩
def q_Row___eq__ (c_Row : Addr) (sp_Row_five : DSp) : DTS :=
  (qRet (qAndV (qCB (dIsO c_Row) (qCons (qVar 1) (qCons (qC (.ref c_Row)) qNil))) (qOp (dEq false) (qMeth c_Row F_Row sp_Row_five [] (qVar 0) qNil) (qMeth c_Row F_Row sp_Row_five [] (qVar 1) qNil))))
theorem dv_Row___eq__ {k : Nat} (T : Tx w K mg) {sp_Row_five : DSp} (G_Row_five : FnOk P w K mg base (L2.CX P w) k T.f_Row_five.f T.f_Row_five.fd ["self"] (toSp K sp_Row_five)) {p : DSp} (hlen : ∀ ds M Q E, p ds M Q E → ds.length = 2)
    (hs : ∀ ds M Q Ed, upSp p ds M Q Ed → q_Row___eq__ T.c_Row.C sp_Row_five (fun x _ M => Ed x M) (retE Q) (startD N_Row___eq__ ds) M) : FnOk P w K mg base (L2.CX P w) (k + 1) T.f_Row___eq__.f T.f_Row___eq__.fd ["self", "other"] (toSp K p) := by
  refine (fn_ok (p := upSp p) T.f_Row___eq__.F sc_Row___eq__ (fun ds M Q E ⟨Q0, E0, h, _⟩ => hlen ds M Q0 E0 h) fun cdv A outer s H E hr tk hp => ?_).imp fun _ _ _ _ h => imp_up h
  have nd := sc_Row___eq__.nd
  have hu64 := hr.units
  have hu := Nat.lt_of_le_of_lt (Nat.add_le_add_left (show 1 ≤ 64 by decide) _) hu64
  exact ⟨_, q_Row___eq__ T.c_Row.C sp_Row_five, (qss_one (qs_ret (q_and (q_callB (c_isO T.s_Row) rfl T.n_isinstance (by decide +kernel) (qa_cons (qv 1) (qa_cons (q_cls T.c_Row.g) qa_nil))) (q_one (q_cmp (o_eq hu64) (q_meth0 (dds := []) (fs := F_Row) T.c_Row.cl T.f_Row_five.m G_Row_five hr tk T.f_Row_five.b .nil (fun _ => rfl) (qv 0) (by decide +kernel)) (q_meth0 (dds := []) (fs := F_Row) T.c_Row.cl T.f_Row_five.m G_Row_five hr tk T.f_Row_five.b .nil (fun _ => rfl) (qv 1) (by decide +kernel))))))), hs⟩
def q_Row___str__ (sp_text_of : DSp) : DTS :=
  (qRet (qCB dStr (qCons (qCall sp_text_of [] (qCons (qVar 0) qNil)) qNil)))
theorem dv_Row___str__ {k : Nat} (T : Tx w K mg) {sp_text_of : DSp} (G_text_of : FnOk P w K mg base (L2.CX P w) k T.f_text_of.f T.f_text_of.fd ["row"] (toSp K sp_text_of)) {p : DSp} (hlen : ∀ ds M Q E, p ds M Q E → ds.length = 1)
    (hs : ∀ ds M Q Ed, upSp p ds M Q Ed → q_Row___str__ sp_text_of (fun x _ M => Ed x M) (retE Q) (startD N_Row___str__ ds) M) : FnOk P w K mg base (L2.CX P w) (k + 1) T.f_Row___str__.f T.f_Row___str__.fd ["self"] (toSp K p) := by
  refine (fn_ok (p := upSp p) T.f_Row___str__.F sc_Row___str__ (fun ds M Q E ⟨Q0, E0, h, _⟩ => hlen ds M Q0 E0 h) fun cdv A outer s H E hr tk hp => ?_).imp fun _ _ _ _ h => imp_up h
  have nd := sc_Row___str__.nd
  have hu64 := hr.units
  have hu := Nat.lt_of_le_of_lt (Nat.add_le_add_left (show 1 ≤ 64 by decide) _) hu64
  exact ⟨_, q_Row___str__ sp_text_of, (qss_one (qs_ret (q_callTy c_str rfl T.n_str (by decide +kernel) (qa_cons (q_call G_text_of hr tk rfl T.f_text_of.g T.f_text_of.F.kp T.f_text_of.b .nil (fun _ => rfl) (qa_cons (qv 0) qa_nil)) qa_nil)))), hs⟩
def q_Row___repr__ (c_Row : Addr) : DTS :=
  (qRet (qJs [(qC (.str (PySem.Str.ofString "Row("))), (qFmt (qFld c_Row F_Row 0 (qVar 0))), (qC (.str (PySem.Str.ofString ")")))] Str.empty))
theorem dv_Row___repr__ {k : Nat} (T : Tx w K mg) {p : DSp} (hlen : ∀ ds M Q E, p ds M Q E → ds.length = 1)
    (hs : ∀ ds M Q Ed, upSp p ds M Q Ed → q_Row___repr__ T.c_Row.C (fun x _ M => Ed x M) (retE Q) (startD N_Row___repr__ ds) M) : FnOk P w K mg base (L2.CX P w) (k + 1) T.f_Row___repr__.f T.f_Row___repr__.fd ["self"] (toSp K p) := by
  refine (fn_ok (p := upSp p) T.f_Row___repr__.F sc_Row___repr__ (fun ds M Q E ⟨Q0, E0, h, _⟩ => hlen ds M Q0 E0 h) fun cdv A outer s H E hr tk hp => ?_).imp fun _ _ _ _ h => imp_up h
  have nd := sc_Row___repr__.nd
  have hu64 := hr.units
  have hu := Nat.lt_of_le_of_lt (Nat.add_le_add_left (show 1 ≤ 64 by decide) _) hu64
  exact ⟨_, q_Row___repr__ T.c_Row.C, (qss_one (qs_ret (q_joined (.cons q_str (.cons (q_fmt (q_fld T.c_Row.cl (T.c_Row.no _ (by simp)) (qv 0) (fs := F_Row) (i := 0) (by decide +kernel))) (.cons q_str .nil)))))), hs⟩
def q__law_bag : DTS :=
  (qSeq (qAsg (qC (.int 0)) (gNameD 2))
  (qSeq (qIfS (qTB (qOp (dCmpI fun i j => decide (i < j)) (qVar 1) (qCB dLen (qCons (qVar 0) qNil))))
  (qAsg (qOp dIx (qVar 0) (qVar 1)) (gNameD 2))
  qNext)
  (qSeq (qAsg (qC (.int 0)) (gNameD 3))
  (qSeq (qIfS (qTB (qOp (dCmpI fun i j => decide (j ≤ i)) (qCB dAbs (qCons (qVar 2) qNil)) (qOp (dInt CPow fun i j => i ^ j.toNat) (qC (.int 10)) (qC (.int 18)))))
  (qAsg (qCB dAbs (qCons (qVar 2) qNil)) (gNameD 3))
  qNext)
  (qSeq (qAsg (qLst false (qCons (qC (.int 2147483629)) (qCons (qC (.int 2147483587)) (qCons (qC (.int 2147483579)) (qCons (qC (.int 2147483563)) (qCons (qC (.int 2147483549)) (qCons (qC (.int 2147483543)) (qCons (qC (.int 2147483497)) (qCons (qC (.int 2147483489)) qNil))))))))) (gNameD 4))
  (qRet (qLst true (qCons (qVar 3) (qCons (qOp (dInt (fun _ j => 0 < j) fun i j => i % j) (qOp (dInt CPow fun i j => i ^ j.toNat) (qOp (dAdd false) (qOp (dAdd false) (qOp (dInt (fun _ j => 0 < j) fun i j => i % j) (qVar 2) (qC (.int 2147483647))) (qOp (dInt CMul fun i j => i * j) (qC (.int 104729)) (qVar 1))) (qC (.int 7))) (qC (.int 5))) (qOp dIx (qVar 4) (qOp (dInt (fun _ j => 0 < j) fun i j => i % j) (qVar 1) (qC (.int 8))))) qNil)))))))))
theorem dv__law_bag {k : Nat} (T : Tx w K mg) {p : DSp} (hlen : ∀ ds M Q E, p ds M Q E → ds.length = 2)
    (hs : ∀ ds M Q Ed, upSp p ds M Q Ed → q__law_bag (fun x _ M => Ed x M) (retE Q) (startD N__law_bag ds) M) : FnOk P w K mg base (L2.CX P w) (k + 1) T.f__law_bag.f T.f__law_bag.fd ["_law_script", "_law_spot"] (toSp K p) := by
  refine (fn_ok (p := upSp p) T.f__law_bag.F sc__law_bag (fun ds M Q E ⟨Q0, E0, h, _⟩ => hlen ds M Q0 E0 h) fun cdv A outer s H E hr tk hp => ?_).imp fun _ _ _ _ h => imp_up h
  have nd := sc__law_bag.nd
  have hu64 := hr.units
  have hu := Nat.lt_of_le_of_lt (Nat.add_le_add_left (show 1 ≤ 64 by decide) _) hu64
  exact ⟨_, q__law_bag, (qss_cons (qs_setN 2 nd q_int)
  (qss_cons (qs_if (qt_cmp o_lt (qv 1) (q_callB c_len rfl T.n_len (by decide +kernel) (qa_cons (qv 0) qa_nil)))
  (qss_one (qs_setN 2 nd (q_ix hu (qv 0) (qv 1))))
  qss_nil)
  (qss_cons (qs_setN 3 nd q_int)
  (qss_cons (qs_if (qt_cmp o_ge (q_callB c_abs rfl T.n_abs (by decide +kernel) (qa_cons (qv 2) qa_nil)) (q_op o_pow q_int q_int))
  (qss_one (qs_setN 3 nd (q_callB c_abs rfl T.n_abs (by decide +kernel) (qa_cons (qv 2) qa_nil))))
  qss_nil)
  (qss_cons (qs_setN 4 nd (q_lst false (qa_cons q_int (qa_cons q_int (qa_cons q_int (qa_cons q_int (qa_cons q_int (qa_cons q_int (qa_cons q_int (qa_cons q_int qa_nil))))))))))
  (qss_one (qs_ret (q_lst true (qa_cons (qv 3) (qa_cons (q_op o_mod (q_op o_pow (q_op (o_add false) (q_op (o_add false) (q_op o_mod (qv 2) q_int) (q_op o_mulI q_int (qv 1))) q_int) q_int) (q_ix hu (qv 4) (q_op o_mod (qv 1) q_int))) qa_nil)))))))))), hs⟩
def q__law_take : DTS :=
  (qSeq (qIfS (qTB (qOp (dCmpI fun i j => decide (j < i)) (qOp dIx (qVar 0) (qC (.int 0))) (qC (.int 0))))
  (qSeq (qAsg (qOp (dInt (fun _ j => 0 < j) fun i j => i % j) (qOp dIx (qVar 0) (qC (.int 0))) (qVar 1)) (gNameD 2))
  (qSeq (qAsg (qOp (dInt CDiv fun i j => i / j) (qOp dIx (qVar 0) (qC (.int 0))) (qVar 1)) (gSubD (qVar 0) (qC (.int 0))))
  (qRet (qVar 2))))
  qNext)
  (qSeq (qAsg (qOp (dInt (fun _ j => 0 < j) fun i j => i % j) (qOp (dAdd false) (qOp (dInt CMul fun i j => i * j) (qOp dIx (qVar 0) (qC (.int 1))) (qC (.int 48271))) (qC (.int 11))) (qC (.int 2147483647))) (gSubD (qVar 0) (qC (.int 1))))
  (qRet (qOp (dInt (fun _ j => 0 < j) fun i j => i % j) (qOp (dInt (fun _ j => 0 < j) fun i j => i % j) (qOp (dInt CPow fun i j => i ^ j.toNat) (qOp (dInt CDiv fun i j => i / j) (qOp dIx (qVar 0) (qC (.int 1))) (qC (.int 8))) (qC (.int 3))) (qC (.int 2147483629))) (qVar 1)))))
theorem dv__law_take {k : Nat} (T : Tx w K mg) {p : DSp} (hlen : ∀ ds M Q E, p ds M Q E → ds.length = 2)
    (hs : ∀ ds M Q Ed, upSp p ds M Q Ed → q__law_take (fun x _ M => Ed x M) (retE Q) (startD N__law_take ds) M) : FnOk P w K mg base (L2.CX P w) (k + 1) T.f__law_take.f T.f__law_take.fd ["_law_bag_here", "_law_many"] (toSp K p) := by
  refine (fn_ok (p := upSp p) T.f__law_take.F sc__law_take (fun ds M Q E ⟨Q0, E0, h, _⟩ => hlen ds M Q0 E0 h) fun cdv A outer s H E hr tk hp => ?_).imp fun _ _ _ _ h => imp_up h
  have nd := sc__law_take.nd
  have hu64 := hr.units
  have hu := Nat.lt_of_le_of_lt (Nat.add_le_add_left (show 1 ≤ 64 by decide) _) hu64
  exact ⟨_, q__law_take, (qss_cons (qs_if (qt_cmp o_gt (q_ix hu (qv 0) q_int) q_int)
  (qss_cons (qs_setN 2 nd (q_op o_mod (q_ix hu (qv 0) q_int) (qv 1)))
  (qss_cons (qs_asg (ix := []) (q_op o_fdiv (q_ix hu (qv 0) q_int) (qv 1)) (qg_sub hu (qv 0) q_int))
  (qss_one (qs_ret (qv 2)))))
  qss_nil)
  (qss_cons (qs_asg (ix := []) (q_op o_mod (q_op (o_add false) (q_op o_mulI (q_ix hu (qv 0) q_int) q_int) q_int) q_int) (qg_sub hu (qv 0) q_int))
  (qss_one (qs_ret (q_op o_mod (q_op o_mod (q_op o_pow (q_op o_fdiv (q_ix hu (qv 0) q_int) q_int) q_int) q_int) (qv 1)))))), hs⟩
def q__law_names (sp__law_take : DSp) : DTS :=
  (qSeq (qAsg (qC (.str (PySem.Str.ofString "abcdefghijklmnopqrstuvwxyz"))) (gNameD 2))
  (qSeq (qAsg (qLst true qNil) (gNameD 3))
  (qSeq (qFor (qiRng1 (qCons (qVar 1) qNil)) (gNameD 4)
  (qSeq (qAsg (qIf (qTB (qOp (dCmpI fun i j => decide (j < i)) (qVar 4) (qC (.int 25)))) (qC (.int 7)) (qCall sp__law_take [] (qCons (qVar 0) (qCons (qC (.int 7)) qNil)))) (gNameD 5))
  (qSeq (qAsg (qBM "str" mJoin (qC (.str (PySem.Str.ofString ""))) (qCons (qLc false (qiRng1 (qCons (qVar 5) qNil)) (gNameD 7) qYes (qOp dIx (qVar 2) (qCall sp__law_take [] (qCons (qVar 0) (qCons (qC (.int 26)) qNil)))) [7]) qNil)) (gNameD 6))
  (qDrop (qBM "list" mApp (qVar 3) (qCons (qOp (dAdd false) (qVar 6) (qOp dIx (qVar 2) (qOp (dInt (fun _ j => 0 < j) fun i j => i % j) (qVar 4) (qC (.int 26))))) qNil))))))
  (qFrz 3 (qRet (qVar 3))))))
theorem dv__law_names {k : Nat} (T : Tx w K mg) {sp__law_take : DSp} (G__law_take : FnOk P w K mg base (L2.CX P w) k T.f__law_take.f T.f__law_take.fd ["_law_bag_here", "_law_many"] (toSp K sp__law_take)) {p : DSp} (hlen : ∀ ds M Q E, p ds M Q E → ds.length = 2)
    (hs : ∀ ds M Q Ed, upSp p ds M Q Ed → q__law_names sp__law_take (fun x _ M => Ed x M) (retE Q) (startD N__law_names ds) M) : FnOk P w K mg base (L2.CX P w) (k + 1) T.f__law_names.f T.f__law_names.fd ["_law_bag_here", "_law_many"] (toSp K p) := by
  refine (fn_ok (p := upSp p) T.f__law_names.F sc__law_names (fun ds M Q E ⟨Q0, E0, h, _⟩ => hlen ds M Q0 E0 h) fun cdv A outer s H E hr tk hp => ?_).imp fun _ _ _ _ h => imp_up h
  have nd := sc__law_names.nd
  have hu64 := hr.units
  have hu := Nat.lt_of_le_of_lt (Nat.add_le_add_left (show 1 ≤ 64 by decide) _) hu64
  exact ⟨_, q__law_names sp__law_take, (qss_cons (qs_setN 2 nd q_str)
  (qss_cons (qs_setN 3 nd (q_lst true qa_nil))
  (qss_cons (qs_for (ix := [4]) hp rfl (qi_range1 rfl T.n_range (qa_cons (qv 1) qa_nil)) (qg_nm 4 nd)
  (qss_cons (qs_setN 5 nd (q_if (qt_cmp o_gt (qv 4) q_int) q_int (q_call G__law_take hr tk rfl T.f__law_take.g T.f__law_take.F.kp T.f__law_take.b .nil (fun _ => rfl) (qa_cons (qv 0) (qa_cons q_int qa_nil)))))
  (qss_cons (qs_setN 6 nd (q_bm PySem.F.plainAttrs_str PySem.F.slot_str_join PySem.F.type_str_join m_join q_str (qa_cons (q_lcX (own := [("_law_turn", 7)]) false rfl nd (qi_range1 rfl T.n_range (qa_cons (qv 5) qa_nil)) (blkOk_by (own := [("_law_turn", 7)]) (N := N__law_names) (sc := defScope s__law_names) (by decide +kernel)) (fun _ _ _ _ _ => ⟨_, (qg_nm 7 nd)⟩) (fun _ _ _ _ _ => ⟨_, qts_nil⟩) (fun _ _ _ _ _ => ⟨_, (q_ix hu (qv 2) (q_call G__law_take hr takes0 rfl T.f__law_take.g T.f__law_take.F.kp T.f__law_take.b .nil (fun _ => rfl) (qa_cons (qv 0) (qa_cons q_int qa_nil))))⟩)) qa_nil)))
  (qss_one (qs_expr (q_bm PySem.F.plainAttrs_list PySem.F.slot_list_append PySem.F.type_list_append m_append (qv 3) (qa_cons (q_op (o_add false) (qv 6) (q_ix hu (qv 2) (q_op o_mod (qv 4) q_int))) qa_nil)))))))
  (qss_one (qs_frz 3 (qs_ret (qv 3))))))), hs⟩
def q__law_ground (sp__law_names : DSp) (sp__law_take : DSp) : DTS :=
  (qSeq (qAsg (qOp dIx (qTup (qCons (qC (.int 6)) (qCons (qC (.int 3)) (qCons (qC (.int 12)) (qCons (qC (.int 1)) (qCons (qC (.int 40)) (qCons (qC (.int 8)) qNil))))))) (qCall sp__law_take [] (qCons (qVar 0) (qCons (qC (.int 6)) qNil)))) (gNameD 1))
  (qSeq (qAsg (qCall sp__law_names [] (qCons (qVar 0) (qCons (qVar 1) qNil))) (gNameD 2))
  (qSeq (qAsg (qCB dTupX (qCons (qLc false (qiAny (qVar 2)) (gNameD 13) qYes (qTup (qCons (qVar 13) (qCons (qOp (dAdd false) (qC (.int 1)) (qCall sp__law_take [] (qCons (qVar 0) (qCons (qC (.int 4)) qNil)))) qNil))) [13]) qNil)) (gNameD 3))
  (qSeq (qAsg (qOp dIx (qTup (qCons (qC (.int 2)) (qCons (qC (.int 5)) (qCons (qC (.int 60)) qNil)))) (qCall sp__law_take [] (qCons (qVar 0) (qCons (qC (.int 3)) qNil)))) (gNameD 4))
  (qSeq (qAsg (qLst true qNil) (gNameD 5))
  (qSeq (qFor (qiRng1 (qCons (qOp (dAdd false) (qOp (dInt0 fun i j => i - j) (qVar 1) (qC (.int 1))) (qCall sp__law_take [] (qCons (qVar 0) (qCons (qOp (dAdd false) (qC (.int 1)) (qCB dMin2 (qCons (qC (.int 40)) (qCons (qVar 1) qNil)))) qNil)))) qNil)) (gNameD 6)
  (qSeq (qPar 7 8 (qCons (qOp (dInt (fun _ j => 0 < j) fun i j => i % j) (qVar 6) (qVar 1)) (qCons (qOp (dInt (fun _ j => 0 < j) fun i j => i % j) (qOp (dAdd false) (qVar 6) (qC (.int 1))) (qVar 1)) qNil)))
  (qSeq (qIfS (qTB (qOp (dCmpI fun i j => decide (j < i)) (qCall sp__law_take [] (qCons (qVar 0) (qCons (qC (.int 3)) qNil))) (qC (.int 0))))
  (qAsg (qCall sp__law_take [] (qCons (qVar 0) (qCons (qVar 1) qNil))) (gNameD 7))
  qNext)
  (qIfS (qAnd (qTB (qOp (dEq true) (qVar 7) (qVar 8))) (qAnd (qTB (qOp (dInD true) (qTup (qCons (qVar 7) (qCons (qVar 8) qNil))) (qVar 5))) (qTB (qOp (dInD true) (qTup (qCons (qVar 8) (qCons (qVar 7) qNil))) (qVar 5)))))
  (qDrop (qBM "list" mApp (qVar 5) (qCons (qTup (qCons (qVar 7) (qCons (qVar 8) qNil))) qNil)))
  qNext))))
  (qSeq (qAsg (qLst true qNil) (gNameD 9))
  (qSeq (qFor (qiAny (qVar 5)) (gTupD 2 (gConsD (gNameD 7) (gConsD (gNameD 8) gNilD)))
  (qSeq (qAsg (qOp (dMul false) (qCall sp__law_take [] (qCons (qVar 0) (qCons (qC (.int 61)) qNil))) (qCB dIntX (qCons (qOp (dEq false) (qCall sp__law_take [] (qCons (qVar 0) (qCons (qC (.int 4)) qNil))) (qC (.int 0))) qNil))) (gNameD 10))
  (qDrop (qBM "list" mApp (qVar 9) (qCons (qTup (qCons (qOp dIx (qVar 2) (qVar 7)) (qCons (qOp dIx (qVar 2) (qVar 8)) (qCons (qOp (dAdd false) (qC (.int 1)) (qCall sp__law_take [] (qCons (qVar 0) (qCons (qVar 4) qNil)))) (qCons (qVar 10) qNil))))) qNil)))))
  (qSeq (qAsg (qLst true qNil) (gNameD 11))
  (qSeq (qFor (qiRng1 (qCons (qOp (dAdd false) (qC (.int 1)) (qCall sp__law_take [] (qCons (qVar 0) (qCons (qCB dMin2 (qCons (qC (.int 12)) (qCons (qVar 1) qNil))) qNil)))) qNil)) (gNameD 6)
  (qSeq (qAsg (qOp dIx (qVar 2) (qCall sp__law_take [] (qCons (qVar 0) (qCons (qVar 1) qNil)))) (gNameD 12))
  (qIfS (qTB (qOp (dIn true) (qVar 12) (qVar 11)))
  (qDrop (qBM "list" mApp (qVar 11) (qCons (qVar 12) qNil)))
  qNext)))
  (qRet (qTup (qCons (qVar 3) (qCons (qCB dTupX (qCons (qVar 9) qNil)) (qCons (qCB dTupX (qCons (qVar 11) qNil)) qNil)))))))))))))))
theorem dv__law_ground {k : Nat} (T : Tx w K mg) {sp__law_names : DSp} (G__law_names : FnOk P w K mg base (L2.CX P w) k T.f__law_names.f T.f__law_names.fd ["_law_bag_here", "_law_many"] (toSp K sp__law_names)) {sp__law_take : DSp} (G__law_take : FnOk P w K mg base (L2.CX P w) k T.f__law_take.f T.f__law_take.fd ["_law_bag_here", "_law_many"] (toSp K sp__law_take)) {p : DSp} (hlen : ∀ ds M Q E, p ds M Q E → ds.length = 1)
    (hs : ∀ ds M Q Ed, upSp p ds M Q Ed → q__law_ground sp__law_names sp__law_take (fun x _ M => Ed x M) (retE Q) (startD N__law_ground ds) M) : FnOk P w K mg base (L2.CX P w) (k + 1) T.f__law_ground.f T.f__law_ground.fd ["_law_bag_here"] (toSp K p) := by
  refine (fn_ok (p := upSp p) T.f__law_ground.F sc__law_ground (fun ds M Q E ⟨Q0, E0, h, _⟩ => hlen ds M Q0 E0 h) fun cdv A outer s H E hr tk hp => ?_).imp fun _ _ _ _ h => imp_up h
  have nd := sc__law_ground.nd
  have hu64 := hr.units
  have hu := Nat.lt_of_le_of_lt (Nat.add_le_add_left (show 1 ≤ 64 by decide) _) hu64
  exact ⟨_, q__law_ground sp__law_names sp__law_take, (qss_cons (qs_setN 1 nd (q_ix hu (q_tup (qa_cons q_int (qa_cons q_int (qa_cons q_int (qa_cons q_int (qa_cons q_int (qa_cons q_int qa_nil))))))) (q_call G__law_take hr tk rfl T.f__law_take.g T.f__law_take.F.kp T.f__law_take.b .nil (fun _ => rfl) (qa_cons (qv 0) (qa_cons q_int qa_nil)))))
  (qss_cons (qs_setN 2 nd (q_call G__law_names hr tk rfl T.f__law_names.g T.f__law_names.F.kp T.f__law_names.b .nil (fun _ => rfl) (qa_cons (qv 0) (qa_cons (qv 1) qa_nil))))
  (qss_cons (qs_setN 3 nd (q_callTy c_tupleX rfl T.n_tuple (by decide +kernel) (qa_cons (q_lcX (own := [("_law_name", 13)]) false rfl nd (qi_any (qv 2)) (blkOk_by (own := [("_law_name", 13)]) (N := N__law_ground) (sc := defScope s__law_ground) (by decide +kernel)) (fun _ _ _ _ _ => ⟨_, (qg_nm 13 nd)⟩) (fun _ _ _ _ _ => ⟨_, qts_nil⟩) (fun _ _ _ _ _ => ⟨_, (q_tup (qa_cons (qv 13) (qa_cons (q_op (o_add false) q_int (q_call G__law_take hr takes0 rfl T.f__law_take.g T.f__law_take.F.kp T.f__law_take.b .nil (fun _ => rfl) (qa_cons (qv 0) (qa_cons q_int qa_nil)))) qa_nil)))⟩)) qa_nil)))
  (qss_cons (qs_setN 4 nd (q_ix hu (q_tup (qa_cons q_int (qa_cons q_int (qa_cons q_int qa_nil)))) (q_call G__law_take hr tk rfl T.f__law_take.g T.f__law_take.F.kp T.f__law_take.b .nil (fun _ => rfl) (qa_cons (qv 0) (qa_cons q_int qa_nil)))))
  (qss_cons (qs_setN 5 nd (q_lst true qa_nil))
  (qss_cons (qs_for (ix := [6]) hp rfl (qi_range1 rfl T.n_range (qa_cons (q_op (o_add false) (q_op o_sub (qv 1) q_int) (q_call G__law_take hr tk rfl T.f__law_take.g T.f__law_take.F.kp T.f__law_take.b .nil (fun _ => rfl) (qa_cons (qv 0) (qa_cons (q_op (o_add false) q_int (q_callB (c_min2 rfl) rfl T.n_min (by decide +kernel) (qa_cons q_int (qa_cons (qv 1) qa_nil)))) qa_nil)))) qa_nil)) (qg_nm 6 nd)
  (qss_cons (qs_parN 7 8 rfl nd (qa_cons (q_op o_mod (qv 6) (qv 1)) (qa_cons (q_op o_mod (q_op (o_add false) (qv 6) q_int) (qv 1)) qa_nil)))
  (qss_cons (qs_if (qt_cmp o_gt (q_call G__law_take hr tk rfl T.f__law_take.g T.f__law_take.F.kp T.f__law_take.b .nil (fun _ => rfl) (qa_cons (qv 0) (qa_cons q_int qa_nil))) q_int)
  (qss_one (qs_setN 7 nd (q_call G__law_take hr tk rfl T.f__law_take.g T.f__law_take.F.kp T.f__law_take.b .nil (fun _ => rfl) (qa_cons (qv 0) (qa_cons (qv 1) qa_nil)))))
  qss_nil)
  (qss_one (qs_if (QW.t (qw_and (qt_cmp (o_ne hu64) (qv 7) (qv 8)) (qw_and (qt_cmp (o_notInD (room65 hr)) (q_tup (qa_cons (qv 7) (qa_cons (qv 8) qa_nil))) (qv 5)) (qw_and1 (qt_cmp (o_notInD (room65 hr)) (q_tup (qa_cons (qv 8) (qa_cons (qv 7) qa_nil))) (qv 5))))))
  (qss_one (qs_expr (q_bm PySem.F.plainAttrs_list PySem.F.slot_list_append PySem.F.type_list_append m_append (qv 5) (qa_cons (q_tup (qa_cons (qv 7) (qa_cons (qv 8) qa_nil))) qa_nil))))
  qss_nil)))))
  (qss_cons (qs_setN 9 nd (q_lst true qa_nil))
  (qss_cons (qs_for (ix := [7, 8]) hp rfl (qi_any (qv 5)) (qg_tup rfl (qgs_cons (qg_nm 7 nd) (qgs_cons (qg_nm 8 nd) qgs_nil)))
  (qss_cons (qs_setN 10 nd (q_op (o_mul false) (q_call G__law_take hr tk rfl T.f__law_take.g T.f__law_take.F.kp T.f__law_take.b .nil (fun _ => rfl) (qa_cons (qv 0) (qa_cons q_int qa_nil))) (q_callTy c_intX rfl T.n_int (by decide +kernel) (qa_cons (q_cmp (o_eq hu64) (q_call G__law_take hr tk rfl T.f__law_take.g T.f__law_take.F.kp T.f__law_take.b .nil (fun _ => rfl) (qa_cons (qv 0) (qa_cons q_int qa_nil))) q_int) qa_nil))))
  (qss_one (qs_expr (q_bm PySem.F.plainAttrs_list PySem.F.slot_list_append PySem.F.type_list_append m_append (qv 9) (qa_cons (q_tup (qa_cons (q_ix hu (qv 2) (qv 7)) (qa_cons (q_ix hu (qv 2) (qv 8)) (qa_cons (q_op (o_add false) q_int (q_call G__law_take hr tk rfl T.f__law_take.g T.f__law_take.F.kp T.f__law_take.b .nil (fun _ => rfl) (qa_cons (qv 0) (qa_cons (qv 4) qa_nil)))) (qa_cons (qv 10) qa_nil))))) qa_nil))))))
  (qss_cons (qs_setN 11 nd (q_lst true qa_nil))
  (qss_cons (qs_for (ix := [6]) hp rfl (qi_range1 rfl T.n_range (qa_cons (q_op (o_add false) q_int (q_call G__law_take hr tk rfl T.f__law_take.g T.f__law_take.F.kp T.f__law_take.b .nil (fun _ => rfl) (qa_cons (qv 0) (qa_cons (q_callB (c_min2 rfl) rfl T.n_min (by decide +kernel) (qa_cons q_int (qa_cons (qv 1) qa_nil))) qa_nil)))) qa_nil)) (qg_nm 6 nd)
  (qss_cons (qs_setN 12 nd (q_ix hu (qv 2) (q_call G__law_take hr tk rfl T.f__law_take.g T.f__law_take.F.kp T.f__law_take.b .nil (fun _ => rfl) (qa_cons (qv 0) (qa_cons (qv 1) qa_nil)))))
  (qss_one (qs_if (qt_cmp (o_notin hu) (qv 12) (qv 11))
  (qss_one (qs_expr (q_bm PySem.F.plainAttrs_list PySem.F.slot_list_append PySem.F.type_list_append m_append (qv 11) (qa_cons (qv 12) qa_nil))))
  qss_nil))))
  (qss_one (qs_ret (q_tup (qa_cons (qv 3) (qa_cons (q_callTy c_tupleX rfl T.n_tuple (by decide +kernel) (qa_cons (qv 9) qa_nil)) (qa_cons (q_callTy c_tupleX rfl T.n_tuple (by decide +kernel) (qa_cons (qv 11) qa_nil)) qa_nil)))))))))))))))), hs⟩
def q__law_engines (sp__law_names : DSp) (sp__law_take : DSp) : DTS :=
  (qSeq (qAsg (qOp dIx (qTup (qCons (qC (.int 4)) (qCons (qC (.int 8)) (qCons (qC (.int 2)) (qCons (qC (.int 24)) (qCons (qC (.int 1)) qNil)))))) (qCall sp__law_take [] (qCons (qVar 0) (qCons (qC (.int 5)) qNil)))) (gNameD 2))
  (qSeq (qAsg (qLst true qNil) (gNameD 3))
  (qSeq (qFor (qiAny (qCall sp__law_names [] (qCons (qVar 0) (qCons (qVar 2) qNil)))) (gNameD 4)
  (qSeq (qAsg (qOp dIx (qTup (qCons (qC (.str (PySem.Str.ofString "pump"))) (qCons (qC (.str (PySem.Str.ofString "ladder"))) (qCons (qC (.str (PySem.Str.ofString "tanker"))) (qCons (qC (.str (PySem.Str.ofString "pump"))) qNil))))) (qCall sp__law_take [] (qCons (qVar 0) (qCons (qC (.int 4)) qNil)))) (gNameD 5))
  (qDrop (qBM "list" mApp (qVar 3) (qCons (qTup (qCons (qVar 4) (qCons (qVar 5) (qCons (qOp dIx (qVar 1) (qCall sp__law_take [] (qCons (qVar 0) (qCons (qCB dLen (qCons (qVar 1) qNil)) qNil)))) (qCons (qOp (dAdd false) (qC (.int 1)) (qCall sp__law_take [] (qCons (qVar 0) (qCons (qC (.int 9)) qNil)))) qNil))))) qNil)))))
  (qRet (qCB dTuple (qCons (qVar 3) qNil))))))
theorem dv__law_engines {k : Nat} (T : Tx w K mg) {sp__law_names : DSp} (G__law_names : FnOk P w K mg base (L2.CX P w) k T.f__law_names.f T.f__law_names.fd ["_law_bag_here", "_law_many"] (toSp K sp__law_names)) {sp__law_take : DSp} (G__law_take : FnOk P w K mg base (L2.CX P w) k T.f__law_take.f T.f__law_take.fd ["_law_bag_here", "_law_many"] (toSp K sp__law_take)) {p : DSp} (hlen : ∀ ds M Q E, p ds M Q E → ds.length = 2)
    (hs : ∀ ds M Q Ed, upSp p ds M Q Ed → q__law_engines sp__law_names sp__law_take (fun x _ M => Ed x M) (retE Q) (startD N__law_engines ds) M) : FnOk P w K mg base (L2.CX P w) (k + 1) T.f__law_engines.f T.f__law_engines.fd ["_law_bag_here", "_law_stations"] (toSp K p) := by
  refine (fn_ok (p := upSp p) T.f__law_engines.F sc__law_engines (fun ds M Q E ⟨Q0, E0, h, _⟩ => hlen ds M Q0 E0 h) fun cdv A outer s H E hr tk hp => ?_).imp fun _ _ _ _ h => imp_up h
  have nd := sc__law_engines.nd
  have hu64 := hr.units
  have hu := Nat.lt_of_le_of_lt (Nat.add_le_add_left (show 1 ≤ 64 by decide) _) hu64
  exact ⟨_, q__law_engines sp__law_names sp__law_take, (qss_cons (qs_setN 2 nd (q_ix hu (q_tup (qa_cons q_int (qa_cons q_int (qa_cons q_int (qa_cons q_int (qa_cons q_int qa_nil)))))) (q_call G__law_take hr tk rfl T.f__law_take.g T.f__law_take.F.kp T.f__law_take.b .nil (fun _ => rfl) (qa_cons (qv 0) (qa_cons q_int qa_nil)))))
  (qss_cons (qs_setN 3 nd (q_lst true qa_nil))
  (qss_cons (qs_for (ix := [4]) hp rfl (qi_any (q_call G__law_names hr tk rfl T.f__law_names.g T.f__law_names.F.kp T.f__law_names.b .nil (fun _ => rfl) (qa_cons (qv 0) (qa_cons (qv 2) qa_nil)))) (qg_nm 4 nd)
  (qss_cons (qs_setN 5 nd (q_ix hu (q_tup (qa_cons q_str (qa_cons q_str (qa_cons q_str (qa_cons q_str qa_nil))))) (q_call G__law_take hr tk rfl T.f__law_take.g T.f__law_take.F.kp T.f__law_take.b .nil (fun _ => rfl) (qa_cons (qv 0) (qa_cons q_int qa_nil)))))
  (qss_one (qs_expr (q_bm PySem.F.plainAttrs_list PySem.F.slot_list_append PySem.F.type_list_append m_append (qv 3) (qa_cons (q_tup (qa_cons (qv 4) (qa_cons (qv 5) (qa_cons (q_ix hu (qv 1) (q_call G__law_take hr tk rfl T.f__law_take.g T.f__law_take.F.kp T.f__law_take.b .nil (fun _ => rfl) (qa_cons (qv 0) (qa_cons (q_callB c_len rfl T.n_len (by decide +kernel) (qa_cons (qv 1) qa_nil)) qa_nil)))) (qa_cons (q_op (o_add false) q_int (q_call G__law_take hr tk rfl T.f__law_take.g T.f__law_take.F.kp T.f__law_take.b .nil (fun _ => rfl) (qa_cons (qv 0) (qa_cons q_int qa_nil)))) qa_nil))))) qa_nil))))))
  (qss_one (qs_ret (q_callTy c_tuple rfl T.n_tuple (by decide +kernel) (qa_cons (qv 3) qa_nil))))))), hs⟩
def q__law_deed (sp__law_kind : DSp) (sp__law_take : DSp) : DTS :=
  (qSeq (qAsg (qVar 1) (gTupD 3 (gConsD (gNameD 4) (gConsD (gNameD 5) (gConsD (gNameD 6) gNilD)))))
  (qSeq (qAsg (qOp dIx (qOp dIx (qVar 2) (qCall sp__law_take [] (qCons (qVar 0) (qCons (qCB dLen (qCons (qVar 2) qNil)) qNil)))) (qC (.int 0))) (gNameD 7))
  (qSeq (qAsg (qOp (dAdd false) (qC (.int 1)) (qCall sp__law_take [] (qCons (qVar 0) (qCons (qC (.int 200)) qNil)))) (gNameD 8))
  (qSeq (qIfS (qAnd (qTB (qOp (dEq true) (qVar 3) (qLst false qNil))) (qTB (qOp (dCmpI fun i j => decide (j < i)) (qCall sp__law_take [] (qCons (qVar 0) (qCons (qC (.int 8)) qNil))) (qC (.int 0)))))
  (qAsg (qOp dIx (qVar 3) (qCall sp__law_take [] (qCons (qVar 0) (qCons (qCB dLen (qCons (qVar 3) qNil)) qNil)))) (gNameD 8))
  qNext)
  (qSeq (qAsg (qCall sp__law_take [] (qCons (qVar 0) (qCons (qC (.int 19)) qNil))) (gNameD 9))
  (qSeq (qIfS (qTB (qOp (dCmpI fun i j => decide (i < j)) (qVar 9) (qC (.int 3))))
  (qRet (qTup (qCons (qC (.str (PySem.Str.ofString "call"))) (qCons (qOp dIx (qOp dIx (qVar 4) (qCall sp__law_take [] (qCons (qVar 0) (qCons (qCB dLen (qCons (qVar 4) qNil)) qNil)))) (qC (.int 0))) (qCons (qCall sp__law_kind [] (qCons (qVar 0) qNil)) qNil)))))
  qNext)
  (qSeq (qIfS (qTB (qOp (dCmpI fun i j => decide (i < j)) (qVar 9) (qC (.int 6))))
  (qRet (qTup (qCons (qC (.str (PySem.Str.ofString "send"))) (qCons (qVar 7) (qCons (qVar 8) qNil)))))
  qNext)
  (qSeq (qIfS (qTB (qOp (dCmpI fun i j => decide (i < j)) (qVar 9) (qC (.int 11))))
  (qRet (qTup (qCons (qOp dIx (qTup (qCons (qC (.str (PySem.Str.ofString "there"))) (qCons (qC (.str (PySem.Str.ofString "back"))) (qCons (qC (.str (PySem.Str.ofString "home"))) (qCons (qC (.str (PySem.Str.ofString "off"))) (qCons (qC (.str (PySem.Str.ofString "on"))) qNil)))))) (qOp (dInt0 fun i j => i - j) (qVar 9) (qC (.int 6)))) (qCons (qVar 7) qNil))))
  qNext)
  (qSeq (qIfS (qTB (qOp (dCmpI fun i j => decide (i < j)) (qVar 9) (qC (.int 13))))
  (qRet (qTup (qCons (qOp dIx (qTup (qCons (qC (.str (PySem.Str.ofString "stand"))) (qCons (qC (.str (PySem.Str.ofString "lend"))) qNil))) (qOp (dInt0 fun i j => i - j) (qVar 9) (qC (.int 11)))) (qCons (qVar 7) (qCons (qOp dIx (qVar 6) (qCall sp__law_take [] (qCons (qVar 0) (qCons (qCB dLen (qCons (qVar 6) qNil)) qNil)))) qNil)))))
  qNext)
  (qSeq (qIfS (qAnd (qTB (qOp (dCmpI fun i j => decide (i < j)) (qVar 9) (qC (.int 15)))) (qTB (qOp (dEq true) (qVar 5) (qTup qNil))))
  (qRet (qTup (qCons (qOp dIx (qTup (qCons (qC (.str (PySem.Str.ofString "shut"))) (qCons (qC (.str (PySem.Str.ofString "clear"))) qNil))) (qOp (dInt0 fun i j => i - j) (qVar 9) (qC (.int 13)))) (qCons (qCall sp__law_take [] (qCons (qVar 0) (qCons (qCB dLen (qCons (qVar 5) qNil)) qNil))) qNil))))
  qNext)
  (qRet (qOp dIx (qLst false (qCons (qTup (qCons (qC (.str (PySem.Str.ofString "again"))) (qCons (qVar 8) qNil))) (qCons (qTup (qCons (qC (.str (PySem.Str.ofString "make"))) (qCons (qVar 8) (qCons (qOp (dAdd false) (qC (.int 1)) (qCall sp__law_take [] (qCons (qVar 0) (qCons (qC (.int 20)) qNil)))) qNil)))) (qCons (qTup (qCons (qC (.str (PySem.Str.ofString "stop"))) (qCons (qVar 8) qNil))) (qCons (qTup (qCons (qC (.str (PySem.Str.ofString "nothing"))) qNil)) qNil))))) (qOp (dInt (fun _ j => 0 < j) fun i j => i % j) (qVar 9) (qC (.int 4)))))))))))))))
theorem dv__law_deed {k : Nat} (T : Tx w K mg) {sp__law_kind : DSp} (G__law_kind : FnOk P w K mg base (L2.CX P w) k T.f__law_kind.f T.f__law_kind.fd ["_law_bag_here"] (toSp K sp__law_kind)) {sp__law_take : DSp} (G__law_take : FnOk P w K mg base (L2.CX P w) k T.f__law_take.f T.f__law_take.fd ["_law_bag_here", "_law_many"] (toSp K sp__law_take)) {p : DSp} (hlen : ∀ ds M Q E, p ds M Q E → ds.length = 4)
    (hs : ∀ ds M Q Ed, upSp p ds M Q Ed → q__law_deed sp__law_kind sp__law_take (fun x _ M => Ed x M) (retE Q) (startD N__law_deed ds) M) : FnOk P w K mg base (L2.CX P w) (k + 1) T.f__law_deed.f T.f__law_deed.fd ["_law_bag_here", "_law_told", "_law_engines_here", "_law_calls"] (toSp K p) := by
  refine (fn_ok (p := upSp p) T.f__law_deed.F sc__law_deed (fun ds M Q E ⟨Q0, E0, h, _⟩ => hlen ds M Q0 E0 h) fun cdv A outer s H E hr tk hp => ?_).imp fun _ _ _ _ h => imp_up h
  have nd := sc__law_deed.nd
  have hu64 := hr.units
  have hu := Nat.lt_of_le_of_lt (Nat.add_le_add_left (show 1 ≤ 64 by decide) _) hu64
  exact ⟨_, q__law_deed sp__law_kind sp__law_take, (qss_cons (qs_asg (ix := [4, 5, 6]) (qv 1) (qg_tup rfl (qgs_cons (qg_nm 4 nd) (qgs_cons (qg_nm 5 nd) (qgs_cons (qg_nm 6 nd) qgs_nil)))))
  (qss_cons (qs_setN 7 nd (q_ix hu (q_ix hu (qv 2) (q_call G__law_take hr tk rfl T.f__law_take.g T.f__law_take.F.kp T.f__law_take.b .nil (fun _ => rfl) (qa_cons (qv 0) (qa_cons (q_callB c_len rfl T.n_len (by decide +kernel) (qa_cons (qv 2) qa_nil)) qa_nil)))) q_int))
  (qss_cons (qs_setN 8 nd (q_op (o_add false) q_int (q_call G__law_take hr tk rfl T.f__law_take.g T.f__law_take.F.kp T.f__law_take.b .nil (fun _ => rfl) (qa_cons (qv 0) (qa_cons q_int qa_nil)))))
  (qss_cons (qs_if (QW.t (qw_and (qt_cmp (o_ne hu64) (qv 3) (q_lst false qa_nil)) (qw_and1 (qt_cmp o_gt (q_call G__law_take hr tk rfl T.f__law_take.g T.f__law_take.F.kp T.f__law_take.b .nil (fun _ => rfl) (qa_cons (qv 0) (qa_cons q_int qa_nil))) q_int))))
  (qss_one (qs_setN 8 nd (q_ix hu (qv 3) (q_call G__law_take hr tk rfl T.f__law_take.g T.f__law_take.F.kp T.f__law_take.b .nil (fun _ => rfl) (qa_cons (qv 0) (qa_cons (q_callB c_len rfl T.n_len (by decide +kernel) (qa_cons (qv 3) qa_nil)) qa_nil))))))
  qss_nil)
  (qss_cons (qs_setN 9 nd (q_call G__law_take hr tk rfl T.f__law_take.g T.f__law_take.F.kp T.f__law_take.b .nil (fun _ => rfl) (qa_cons (qv 0) (qa_cons q_int qa_nil))))
  (qss_cons (qs_if (qt_cmp o_lt (qv 9) q_int)
  (qss_one (qs_ret (q_tup (qa_cons q_str (qa_cons (q_ix hu (q_ix hu (qv 4) (q_call G__law_take hr tk rfl T.f__law_take.g T.f__law_take.F.kp T.f__law_take.b .nil (fun _ => rfl) (qa_cons (qv 0) (qa_cons (q_callB c_len rfl T.n_len (by decide +kernel) (qa_cons (qv 4) qa_nil)) qa_nil)))) q_int) (qa_cons (q_call G__law_kind hr tk rfl T.f__law_kind.g T.f__law_kind.F.kp T.f__law_kind.b .nil (fun _ => rfl) (qa_cons (qv 0) qa_nil)) qa_nil))))))
  qss_nil)
  (qss_cons (qs_if (qt_cmp o_lt (qv 9) q_int)
  (qss_one (qs_ret (q_tup (qa_cons q_str (qa_cons (qv 7) (qa_cons (qv 8) qa_nil))))))
  qss_nil)
  (qss_cons (qs_if (qt_cmp o_lt (qv 9) q_int)
  (qss_one (qs_ret (q_tup (qa_cons (q_ix hu (q_tup (qa_cons q_str (qa_cons q_str (qa_cons q_str (qa_cons q_str (qa_cons q_str qa_nil)))))) (q_op o_sub (qv 9) q_int)) (qa_cons (qv 7) qa_nil)))))
  qss_nil)
  (qss_cons (qs_if (qt_cmp o_lt (qv 9) q_int)
  (qss_one (qs_ret (q_tup (qa_cons (q_ix hu (q_tup (qa_cons q_str (qa_cons q_str qa_nil))) (q_op o_sub (qv 9) q_int)) (qa_cons (qv 7) (qa_cons (q_ix hu (qv 6) (q_call G__law_take hr tk rfl T.f__law_take.g T.f__law_take.F.kp T.f__law_take.b .nil (fun _ => rfl) (qa_cons (qv 0) (qa_cons (q_callB c_len rfl T.n_len (by decide +kernel) (qa_cons (qv 6) qa_nil)) qa_nil)))) qa_nil))))))
  qss_nil)
  (qss_cons (qs_if (QW.t (qw_and (qt_cmp o_lt (qv 9) q_int) (qw_and1 (qt_cmp (o_ne hu64) (qv 5) (q_tup qa_nil)))))
  (qss_one (qs_ret (q_tup (qa_cons (q_ix hu (q_tup (qa_cons q_str (qa_cons q_str qa_nil))) (q_op o_sub (qv 9) q_int)) (qa_cons (q_call G__law_take hr tk rfl T.f__law_take.g T.f__law_take.F.kp T.f__law_take.b .nil (fun _ => rfl) (qa_cons (qv 0) (qa_cons (q_callB c_len rfl T.n_len (by decide +kernel) (qa_cons (qv 5) qa_nil)) qa_nil))) qa_nil)))))
  qss_nil)
  (qss_one (qs_ret (q_ix hu (q_lst false (qa_cons (q_tup (qa_cons q_str (qa_cons (qv 8) qa_nil))) (qa_cons (q_tup (qa_cons q_str (qa_cons (qv 8) (qa_cons (q_op (o_add false) q_int (q_call G__law_take hr tk rfl T.f__law_take.g T.f__law_take.F.kp T.f__law_take.b .nil (fun _ => rfl) (qa_cons (qv 0) (qa_cons q_int qa_nil)))) qa_nil)))) (qa_cons (q_tup (qa_cons q_str (qa_cons (qv 8) qa_nil))) (qa_cons (q_tup (qa_cons q_str qa_nil)) qa_nil))))) (q_op o_mod (qv 9) q_int)))))))))))))), hs⟩
def q__law_kind (sp__law_take : DSp) : DTS :=
  (qRet (qOp dIx (qTup (qCons (qC (.str (PySem.Str.ofString "house"))) (qCons (qC (.str (PySem.Str.ofString "car"))) (qCons (qC (.str (PySem.Str.ofString "chimney"))) (qCons (qC (.str (PySem.Str.ofString "grass"))) (qCons (qC (.str (PySem.Str.ofString "people"))) (qCons (qC (.str (PySem.Str.ofString "works"))) qNil))))))) (qCall sp__law_take [] (qCons (qVar 0) (qCons (qC (.int 6)) qNil)))))
theorem dv__law_kind {k : Nat} (T : Tx w K mg) {sp__law_take : DSp} (G__law_take : FnOk P w K mg base (L2.CX P w) k T.f__law_take.f T.f__law_take.fd ["_law_bag_here", "_law_many"] (toSp K sp__law_take)) {p : DSp} (hlen : ∀ ds M Q E, p ds M Q E → ds.length = 1)
    (hs : ∀ ds M Q Ed, upSp p ds M Q Ed → q__law_kind sp__law_take (fun x _ M => Ed x M) (retE Q) (startD N__law_kind ds) M) : FnOk P w K mg base (L2.CX P w) (k + 1) T.f__law_kind.f T.f__law_kind.fd ["_law_bag_here"] (toSp K p) := by
  refine (fn_ok (p := upSp p) T.f__law_kind.F sc__law_kind (fun ds M Q E ⟨Q0, E0, h, _⟩ => hlen ds M Q0 E0 h) fun cdv A outer s H E hr tk hp => ?_).imp fun _ _ _ _ h => imp_up h
  have nd := sc__law_kind.nd
  have hu64 := hr.units
  have hu := Nat.lt_of_le_of_lt (Nat.add_le_add_left (show 1 ≤ 64 by decide) _) hu64
  exact ⟨_, q__law_kind sp__law_take, (qss_one (qs_ret (q_ix hu (q_tup (qa_cons q_str (qa_cons q_str (qa_cons q_str (qa_cons q_str (qa_cons q_str (qa_cons q_str qa_nil))))))) (q_call G__law_take hr tk rfl T.f__law_take.g T.f__law_take.F.kp T.f__law_take.b .nil (fun _ => rfl) (qa_cons (qv 0) (qa_cons q_int qa_nil)))))), hs⟩
def q__law_like (sp__law_like : DSp) : DTS :=
  (qSeq (qIfS (qOr (qTB (qOp (dEq true) (qCB dIsi (qCons (qVar 0) (qCons (qC (.ty "bool")) qNil))) (qCB dIsi (qCons (qVar 1) (qCons (qC (.ty "bool")) qNil))))) (qTB (qOp (dEq true) (qVar 0) (qVar 1))))
  (qRet (qC (.bl false)))
  qNext)
  (qSeq (qIfS (qTB (qCB dIsi (qCons (qVar 0) (qCons (qTup (qCons (qC (.ty "list")) (qCons (qC (.ty "tuple")) qNil))) qNil))))
  (qRet (qCB dAll (qCons (qLc false (qiZipB (qCons (qVar 0) (qCons (qVar 1) qNil))) (gTupD 2 (gConsD (gNameD 2) (gConsD (gNameD 3) gNilD))) qYes (qCall sp__law_like [] (qCons (qVar 2) (qCons (qVar 3) qNil))) [2, 3]) qNil)))
  qNext)
  (qRet (qC (.bl true)))))
theorem dv__law_like {k : Nat} (T : Tx w K mg) {sp__law_like : DSp} (G__law_like : FnOk P w K mg base (L2.CX P w) k T.f__law_like.f T.f__law_like.fd ["_law_told", "_law_due"] (toSp K sp__law_like)) {p : DSp} (hlen : ∀ ds M Q E, p ds M Q E → ds.length = 2)
    (hs : ∀ ds M Q Ed, upSp p ds M Q Ed → q__law_like sp__law_like (fun x _ M => Ed x M) (retE Q) (startD N__law_like ds) M) : FnOk P w K mg base (L2.CX P w) (k + 1) T.f__law_like.f T.f__law_like.fd ["_law_told", "_law_due"] (toSp K p) := by
  refine (fn_ok (p := upSp p) T.f__law_like.F sc__law_like (fun ds M Q E ⟨Q0, E0, h, _⟩ => hlen ds M Q0 E0 h) fun cdv A outer s H E hr tk hp => ?_).imp fun _ _ _ _ h => imp_up h
  have nd := sc__law_like.nd
  have hu64 := hr.units
  have hu := Nat.lt_of_le_of_lt (Nat.add_le_add_left (show 1 ≤ 64 by decide) _) hu64
  exact ⟨_, q__law_like sp__law_like, (qss_cons (qs_if (QW.t (qw_or (qt_cmp (o_ne hu64) (q_callB c_isi rfl T.n_isinstance (by decide +kernel) (qa_cons (qv 0) (qa_cons (qe_c (pe_bltn (v := .ty "bool") rfl T.n_bool (by decide +kernel) rfl) fun _ => rfl) qa_nil))) (q_callB c_isi rfl T.n_isinstance (by decide +kernel) (qa_cons (qv 1) (qa_cons (qe_c (pe_bltn (v := .ty "bool") rfl T.n_bool (by decide +kernel) rfl) fun _ => rfl) qa_nil)))) (qw_or1 (qt_cmp (o_ne hu64) (qv 0) (qv 1)))))
  (qss_one (qs_ret q_bl))
  qss_nil)
  (qss_cons (qs_if (qt_val (q_callB c_isi rfl T.n_isinstance (by decide +kernel) (qa_cons (qv 0) (qa_cons (q_tup (qa_cons (qe_c (pe_bltn (v := .ty "list") rfl T.n_list (by decide +kernel) rfl) fun _ => rfl) (qa_cons (qe_c (pe_bltn (v := .ty "tuple") rfl T.n_tuple (by decide +kernel) rfl) fun _ => rfl) qa_nil))) qa_nil))))
  (qss_one (qs_ret (q_callB (c_all rfl) rfl T.n_all (by decide +kernel) (qa_cons (q_lcX (own := [("_law_one", 2), ("_law_other_here", 3)]) false rfl nd (qi_zipB rfl T.n_zip (qa_cons (qv 0) (qa_cons (qv 1) qa_nil))) (blkOk_by (own := [("_law_one", 2), ("_law_other_here", 3)]) (N := N__law_like) (sc := defScope s__law_like) (by decide +kernel)) (fun _ _ _ _ _ => ⟨_, (qg_tup rfl (qgs_cons (qg_nm 2 nd) (qgs_cons (qg_nm 3 nd) qgs_nil)))⟩) (fun _ _ _ _ _ => ⟨_, qts_nil⟩) (fun _ _ _ _ _ => ⟨_, (q_call G__law_like hr takes0 rfl T.f__law_like.g T.f__law_like.F.kp T.f__law_like.b .nil (fun _ => rfl) (qa_cons (qv 2) (qa_cons (qv 3) qa_nil)))⟩)) qa_nil))))
  qss_nil)
  (qss_one (qs_ret q_bl)))), hs⟩
def q__law_shown : DTS :=
  (qSeq (qPar 1 2 (qCons (qOp (dInt CDiv fun i j => i / j) (qOp (dInt (fun _ j => 0 < j) fun i j => i % j) (qVar 0) (qC (.int 1440))) (qC (.int 60))) (qCons (qOp (dInt (fun _ j => 0 < j) fun i j => i % j) (qVar 0) (qC (.int 60))) qNil)))
  (qRet (qOp (dAdd false) (qOp (dAdd false) (qOp (dAdd false) (qOp (dAdd false) (qCB dStr (qCons (qOp (dInt CDiv fun i j => i / j) (qVar 0) (qC (.int 1440))) qNil)) (qC (.str (PySem.Str.ofString " ")))) (qSl false (qOp (dAdd false) (qC (.str (PySem.Str.ofString "0"))) (qCB dStr (qCons (qVar 1) qNil))) (qPart (qUn dNeg (qC (.int 2)))) qNoPart)) (qC (.str (PySem.Str.ofString ":")))) (qSl false (qOp (dAdd false) (qC (.str (PySem.Str.ofString "0"))) (qCB dStr (qCons (qVar 2) qNil))) (qPart (qUn dNeg (qC (.int 2)))) qNoPart))))
theorem dv__law_shown {k : Nat} (T : Tx w K mg) {p : DSp} (hlen : ∀ ds M Q E, p ds M Q E → ds.length = 1)
    (hs : ∀ ds M Q Ed, upSp p ds M Q Ed → q__law_shown (fun x _ M => Ed x M) (retE Q) (startD N__law_shown ds) M) : FnOk P w K mg base (L2.CX P w) (k + 1) T.f__law_shown.f T.f__law_shown.fd ["_law_minute"] (toSp K p) := by
  refine (fn_ok (p := upSp p) T.f__law_shown.F sc__law_shown (fun ds M Q E ⟨Q0, E0, h, _⟩ => hlen ds M Q0 E0 h) fun cdv A outer s H E hr tk hp => ?_).imp fun _ _ _ _ h => imp_up h
  have nd := sc__law_shown.nd
  have hu64 := hr.units
  have hu := Nat.lt_of_le_of_lt (Nat.add_le_add_left (show 1 ≤ 64 by decide) _) hu64
  exact ⟨_, q__law_shown, (qss_cons (qs_parN 1 2 rfl nd (qa_cons (q_op o_fdiv (q_op o_mod (qv 0) q_int) q_int) (qa_cons (q_op o_mod (qv 0) q_int) qa_nil)))
  (qss_one (qs_ret (q_op (o_add false) (q_op (o_add false) (q_op (o_add false) (q_op (o_add false) (q_callTy c_str rfl T.n_str (by decide +kernel) (qa_cons (q_op o_fdiv (qv 0) q_int) qa_nil)) q_str) (q_slice false (q_op (o_add false) q_str (q_callTy c_str rfl T.n_str (by decide +kernel) (qa_cons (qv 1) qa_nil))) (qo_some (q_neg q_int)) qo_none)) q_str) (q_slice false (q_op (o_add false) q_str (q_callTy c_str rfl T.n_str (by decide +kernel) (qa_cons (qv 2) qa_nil))) (qo_some (q_neg q_int)) qo_none))))), hs⟩
def q__law_text (sp__law_shown : DSp) : DTS :=
  (qSeq (qAsg (qOp (dAdd false) (qLst false (qCons (qCB dStr (qCons (qOp dIx (qVar 0) (qC (.int 0))) qNil)) (qCons (qCall sp__law_shown [] (qCons (qOp dIx (qVar 0) (qC (.int 1))) qNil)) (qCons (qCall sp__law_shown [] (qCons (qOp dIx (qVar 0) (qC (.int 2))) qNil)) qNil)))) (qLc false (qiAny (qOp dIx (qVar 0) (qC (.int 3)))) (gNameD 2) qYes (qCB dStr (qCons (qVar 2) qNil)) [2])) (gNameD 1))
  (qRet (qBM "str" mJoin (qC (.str (PySem.Str.ofString " "))) (qCons (qOp (dAdd false) (qVar 1) (qOp (dMul false) (qLst false (qCons (qOp (dAdd false) (qC (.str (PySem.Str.ofString "right "))) (qCB dStr (qCons (qOp dIx (qVar 0) (qC (.int 4))) qNil))) qNil)) (qCB dIntX (qCons (qOp (dCmpI fun i j => decide (j < i)) (qOp dIx (qVar 0) (qC (.int 4))) (qC (.int 0))) qNil)))) qNil))))
theorem dv__law_text {k : Nat} (T : Tx w K mg) {sp__law_shown : DSp} (G__law_shown : FnOk P w K mg base (L2.CX P w) k T.f__law_shown.f T.f__law_shown.fd ["_law_minute"] (toSp K sp__law_shown)) {p : DSp} (hlen : ∀ ds M Q E, p ds M Q E → ds.length = 1)
    (hs : ∀ ds M Q Ed, upSp p ds M Q Ed → q__law_text sp__law_shown (fun x _ M => Ed x M) (retE Q) (startD N__law_text ds) M) : FnOk P w K mg base (L2.CX P w) (k + 1) T.f__law_text.f T.f__law_text.fd ["_law_five_here"] (toSp K p) := by
  refine (fn_ok (p := upSp p) T.f__law_text.F sc__law_text (fun ds M Q E ⟨Q0, E0, h, _⟩ => hlen ds M Q0 E0 h) fun cdv A outer s H E hr tk hp => ?_).imp fun _ _ _ _ h => imp_up h
  have nd := sc__law_text.nd
  have hu64 := hr.units
  have hu := Nat.lt_of_le_of_lt (Nat.add_le_add_left (show 1 ≤ 64 by decide) _) hu64
  exact ⟨_, q__law_text sp__law_shown, (qss_cons (qs_setN 1 nd (q_op (o_add false) (q_lst false (qa_cons (q_callTy c_str rfl T.n_str (by decide +kernel) (qa_cons (q_ix hu (qv 0) q_int) qa_nil)) (qa_cons (q_call G__law_shown hr tk rfl T.f__law_shown.g T.f__law_shown.F.kp T.f__law_shown.b .nil (fun _ => rfl) (qa_cons (q_ix hu (qv 0) q_int) qa_nil)) (qa_cons (q_call G__law_shown hr tk rfl T.f__law_shown.g T.f__law_shown.F.kp T.f__law_shown.b .nil (fun _ => rfl) (qa_cons (q_ix hu (qv 0) q_int) qa_nil)) qa_nil)))) (q_lcX (own := [("_law_one", 2)]) false rfl nd (qi_any (q_ix hu (qv 0) q_int)) (blkOk_by (own := [("_law_one", 2)]) (N := N__law_text) (sc := defScope s__law_text) (by decide +kernel)) (fun _ _ _ _ _ => ⟨_, (qg_nm 2 nd)⟩) (fun _ _ _ _ _ => ⟨_, qts_nil⟩) (fun _ _ _ _ _ => ⟨_, (q_callTy c_str rfl T.n_str (by decide +kernel) (qa_cons (qv 2) qa_nil))⟩))))
  (qss_one (qs_ret (q_bm PySem.F.plainAttrs_str PySem.F.slot_str_join PySem.F.type_str_join m_join q_str (qa_cons (q_op (o_add false) (qv 1) (q_op (o_mul false) (q_lst false (qa_cons (q_op (o_add false) q_str (q_callTy c_str rfl T.n_str (by decide +kernel) (qa_cons (q_ix hu (qv 0) q_int) qa_nil))) qa_nil)) (q_callTy c_intX rfl T.n_int (by decide +kernel) (qa_cons (q_cmp o_gt (q_ix hu (qv 0) q_int) q_int) qa_nil)))) qa_nil))))), hs⟩
def q__law_five (sp__law_deed : DSp) (sp__law_take : DSp) : DTS :=
  (qSeq (qAsg (qCall sp__law_deed [] (qCons (qVar 0) (qCons (qVar 1) (qCons (qVar 2) (qCons (qLst false qNil) qNil))))) (gNameD 3))
  (qSeq (qAsg (qCall sp__law_take [] (qCons (qVar 0) (qCons (qOp dIx (qTup (qCons (qC (.int 10000)) (qCons (qC (.int 3000)) (qCons (qC (.int 1440)) qNil)))) (qCall sp__law_take [] (qCons (qVar 0) (qCons (qC (.int 3)) qNil)))) qNil))) (gNameD 4))
  (qSeq (qAsg (qCall sp__law_take [] (qCons (qVar 0) (qCons (qOp (dAdd false) (qVar 4) (qC (.int 1))) qNil))) (gNameD 5))
  (qSeq (qAsg (qOp (dAdd false) (qC (.int 1)) (qCall sp__law_take [] (qCons (qVar 0) (qCons (qC (.int 200)) qNil)))) (gNameD 6))
  (qRet (qTup (qCons (qVar 6) (qCons (qVar 4) (qCons (qVar 5) (qCons (qVar 3) (qCons (qOp (dMul false) (qCall sp__law_take [] (qCons (qVar 0) (qCons (qVar 6) qNil))) (qCall sp__law_take [] (qCons (qVar 0) (qCons (qC (.int 2)) qNil)))) qNil)))))))))))
theorem dv__law_five {k : Nat} (T : Tx w K mg) {sp__law_deed : DSp} (G__law_deed : FnOk P w K mg base (L2.CX P w) k T.f__law_deed.f T.f__law_deed.fd ["_law_bag_here", "_law_told", "_law_engines_here", "_law_calls"] (toSp K sp__law_deed)) {sp__law_take : DSp} (G__law_take : FnOk P w K mg base (L2.CX P w) k T.f__law_take.f T.f__law_take.fd ["_law_bag_here", "_law_many"] (toSp K sp__law_take)) {p : DSp} (hlen : ∀ ds M Q E, p ds M Q E → ds.length = 3)
    (hs : ∀ ds M Q Ed, upSp p ds M Q Ed → q__law_five sp__law_deed sp__law_take (fun x _ M => Ed x M) (retE Q) (startD N__law_five ds) M) : FnOk P w K mg base (L2.CX P w) (k + 1) T.f__law_five.f T.f__law_five.fd ["_law_bag_here", "_law_told", "_law_engines_here"] (toSp K p) := by
  refine (fn_ok (p := upSp p) T.f__law_five.F sc__law_five (fun ds M Q E ⟨Q0, E0, h, _⟩ => hlen ds M Q0 E0 h) fun cdv A outer s H E hr tk hp => ?_).imp fun _ _ _ _ h => imp_up h
  have nd := sc__law_five.nd
  have hu64 := hr.units
  have hu := Nat.lt_of_le_of_lt (Nat.add_le_add_left (show 1 ≤ 64 by decide) _) hu64
  exact ⟨_, q__law_five sp__law_deed sp__law_take, (qss_cons (qs_setN 3 nd (q_call G__law_deed hr tk rfl T.f__law_deed.g T.f__law_deed.F.kp T.f__law_deed.b .nil (fun _ => rfl) (qa_cons (qv 0) (qa_cons (qv 1) (qa_cons (qv 2) (qa_cons (q_lst false qa_nil) qa_nil))))))
  (qss_cons (qs_setN 4 nd (q_call G__law_take hr tk rfl T.f__law_take.g T.f__law_take.F.kp T.f__law_take.b .nil (fun _ => rfl) (qa_cons (qv 0) (qa_cons (q_ix hu (q_tup (qa_cons q_int (qa_cons q_int (qa_cons q_int qa_nil)))) (q_call G__law_take hr tk rfl T.f__law_take.g T.f__law_take.F.kp T.f__law_take.b .nil (fun _ => rfl) (qa_cons (qv 0) (qa_cons q_int qa_nil)))) qa_nil))))
  (qss_cons (qs_setN 5 nd (q_call G__law_take hr tk rfl T.f__law_take.g T.f__law_take.F.kp T.f__law_take.b .nil (fun _ => rfl) (qa_cons (qv 0) (qa_cons (q_op (o_add false) (qv 4) q_int) qa_nil))))
  (qss_cons (qs_setN 6 nd (q_op (o_add false) q_int (q_call G__law_take hr tk rfl T.f__law_take.g T.f__law_take.F.kp T.f__law_take.b .nil (fun _ => rfl) (qa_cons (qv 0) (qa_cons q_int qa_nil)))))
  (qss_one (qs_ret (q_tup (qa_cons (qv 6) (qa_cons (qv 4) (qa_cons (qv 5) (qa_cons (qv 3) (qa_cons (q_op (o_mul false) (q_call G__law_take hr tk rfl T.f__law_take.g T.f__law_take.F.kp T.f__law_take.b .nil (fun _ => rfl) (qa_cons (qv 0) (qa_cons (qv 6) qa_nil))) (q_call G__law_take hr tk rfl T.f__law_take.g T.f__law_take.F.kp T.f__law_take.b .nil (fun _ => rfl) (qa_cons (qv 0) (qa_cons q_int qa_nil)))) qa_nil)))))))))))), hs⟩
def q__law_other (sp__law_take : DSp) : DTS :=
  (qSeq (qAsg (qCall sp__law_take [] (qCons (qVar 0) (qCons (qC (.int 5)) qNil))) (gNameD 3))
  (qSeq (qAsg (qVar 2) (gNameD 4))
  (qSeq (qIfS (qTB (qOp (dEq true) (qVar 3) (qC (.int 3))))
  (qAsg (qIf (qTB (qOp (dCmpI fun i j => decide (i < j)) (qOp dIx (qVar 1) (qVar 3)) (qC (.int 200)))) (qOp (dAdd false) (qOp dIx (qVar 1) (qVar 3)) (qC (.int 1))) (qOp (dInt0 fun i j => i - j) (qOp (dInt0 fun i j => i - j) (qOp dIx (qVar 1) (qVar 3)) (qC (.int 1))) (qCall sp__law_take [] (qCons (qVar 0) (qCons (qC (.int 9)) qNil))))) (gNameD 4))
  qNext)
  (qRet (qOp (dAdd false) (qOp (dAdd false) (qSl false (qVar 1) qNoPart (qPart (qVar 3))) (qTup (qCons (qVar 4) qNil))) (qSl false (qVar 1) (qPart (qOp (dAdd false) (qVar 3) (qC (.int 1)))) qNoPart))))))
theorem dv__law_other {k : Nat} (T : Tx w K mg) {sp__law_take : DSp} (G__law_take : FnOk P w K mg base (L2.CX P w) k T.f__law_take.f T.f__law_take.fd ["_law_bag_here", "_law_many"] (toSp K sp__law_take)) {p : DSp} (hlen : ∀ ds M Q E, p ds M Q E → ds.length = 3)
    (hs : ∀ ds M Q Ed, upSp p ds M Q Ed → q__law_other sp__law_take (fun x _ M => Ed x M) (retE Q) (startD N__law_other ds) M) : FnOk P w K mg base (L2.CX P w) (k + 1) T.f__law_other.f T.f__law_other.fd ["_law_bag_here", "_law_five_here", "_law_what"] (toSp K p) := by
  refine (fn_ok (p := upSp p) T.f__law_other.F sc__law_other (fun ds M Q E ⟨Q0, E0, h, _⟩ => hlen ds M Q0 E0 h) fun cdv A outer s H E hr tk hp => ?_).imp fun _ _ _ _ h => imp_up h
  have nd := sc__law_other.nd
  have hu64 := hr.units
  have hu := Nat.lt_of_le_of_lt (Nat.add_le_add_left (show 1 ≤ 64 by decide) _) hu64
  exact ⟨_, q__law_other sp__law_take, (qss_cons (qs_setN 3 nd (q_call G__law_take hr tk rfl T.f__law_take.g T.f__law_take.F.kp T.f__law_take.b .nil (fun _ => rfl) (qa_cons (qv 0) (qa_cons q_int qa_nil))))
  (qss_cons (qs_setN 4 nd (qv 2))
  (qss_cons (qs_if (qt_cmp (o_ne hu64) (qv 3) q_int)
  (qss_one (qs_setN 4 nd (q_if (qt_cmp o_lt (q_ix hu (qv 1) (qv 3)) q_int) (q_op (o_add false) (q_ix hu (qv 1) (qv 3)) q_int) (q_op o_sub (q_op o_sub (q_ix hu (qv 1) (qv 3)) q_int) (q_call G__law_take hr tk rfl T.f__law_take.g T.f__law_take.F.kp T.f__law_take.b .nil (fun _ => rfl) (qa_cons (qv 0) (qa_cons q_int qa_nil)))))))
  qss_nil)
  (qss_one (qs_ret (q_op (o_add false) (q_op (o_add false) (q_slice false (qv 1) qo_none (qo_some (qv 3))) (q_tup (qa_cons (qv 4) qa_nil))) (q_slice false (qv 1) (qo_some (q_op (o_add false) (qv 3) q_int)) qo_none))))))), hs⟩
def q__law_is_told (c_Row : Addr) (sp_Row___eq__ : DSp) (sp_Row___repr__ : DSp) (sp_Row___str__ : DSp) (sp__law_like : DSp) (sp__law_text : DSp) : DTS :=
  (qSeq (qAsg (qTup (qCons (qFld c_Row F_Row 0 (qVar 0)) (qCons (qFld c_Row F_Row 1 (qVar 0)) (qCons (qFld c_Row F_Row 2 (qVar 0)) (qCons (qFld c_Row F_Row 3 (qVar 0)) (qCons (qFld c_Row F_Row 4 (qVar 0)) qNil)))))) (gNameD 2))
  (qSeq (qIfS (qOr (qNot (qTB (qCall sp__law_like [] (qCons (qVar 2) (qCons (qVar 1) qNil))))) (qTB (qOp (dEq true) (qCB (dOwn1 c_Row fitStrD sp_Row___str__) (qCons (qVar 0) qNil)) (qCall sp__law_text [] (qCons (qVar 1) qNil)))))
  (qRet (qC (.bl false)))
  qNext)
  (qSeq (qIfS (qTB (qOp (dEq true) (qCB (dOwn1 c_Row fitStrD sp_Row___repr__) (qCons (qVar 0) qNil)) (qOp (dAdd false) (qOp (dAdd false) (qC (.str (PySem.Str.ofString "Row("))) (qCB dStr (qCons (qOp dIx (qVar 1) (qC (.int 0))) qNil))) (qC (.str (PySem.Str.ofString ")"))))))
  (qRet (qC (.bl false)))
  qNext)
  (qRet (qNotV (qCB dAny (qCons (qLc false (qiAny (qTup (qCons (qC .non) (qCons (qVar 1) (qCons (qCB (dOwn1 c_Row fitStrD sp_Row___str__) (qCons (qVar 0) qNil)) (qCons (qOp dIx (qVar 1) (qC (.int 0))) (qCons (qLst false (qCons (qVar 0) qNil)) qNil))))))) (gNameD 3) qYes (qOp (dOwnX false c_Row sp_Row___eq__) (qVar 0) (qVar 3)) [3]) qNil)))))))
theorem dv__law_is_told {k : Nat} (T : Tx w K mg) {ke_Row : Nat} (he_Row : ke_Row + 1 ≤ k) {kn_Row_repr : Nat} (hn_Row_repr : kn_Row_repr + 1 ≤ k) {kn_Row_str : Nat} (hn_Row_str : kn_Row_str + 2 ≤ k) {sp_Row___eq__ : DSp} (G_Row___eq__ : FnOk P w K mg base (L2.CX P w) ke_Row T.f_Row___eq__.f T.f_Row___eq__.fd ["self", "other"] (toSp K sp_Row___eq__)) {sp_Row___repr__ : DSp} (G_Row___repr__ : FnOk P w K mg base (L2.CX P w) kn_Row_repr T.f_Row___repr__.f T.f_Row___repr__.fd ["self"] (toSp K sp_Row___repr__)) {sp_Row___str__ : DSp} (G_Row___str__ : FnOk P w K mg base (L2.CX P w) kn_Row_str T.f_Row___str__.f T.f_Row___str__.fd ["self"] (toSp K sp_Row___str__)) {sp__law_like : DSp} (G__law_like : FnOk P w K mg base (L2.CX P w) k T.f__law_like.f T.f__law_like.fd ["_law_told", "_law_due"] (toSp K sp__law_like)) {sp__law_text : DSp} (G__law_text : FnOk P w K mg base (L2.CX P w) k T.f__law_text.f T.f__law_text.fd ["_law_five_here"] (toSp K sp__law_text)) {p : DSp} (hlen : ∀ ds M Q E, p ds M Q E → ds.length = 2)
    (hs : ∀ ds M Q Ed, upSp p ds M Q Ed → q__law_is_told T.c_Row.C sp_Row___eq__ sp_Row___repr__ sp_Row___str__ sp__law_like sp__law_text (fun x _ M => Ed x M) (retE Q) (startD N__law_is_told ds) M) : FnOk P w K mg base (L2.CX P w) (k + 1) T.f__law_is_told.f T.f__law_is_told.fd ["_law_row", "_law_five_here"] (toSp K p) := by
  refine (fn_ok (p := upSp p) T.f__law_is_told.F sc__law_is_told (fun ds M Q E ⟨Q0, E0, h, _⟩ => hlen ds M Q0 E0 h) fun cdv A outer s H E hr tk hp => ?_).imp fun _ _ _ _ h => imp_up h
  have nd := sc__law_is_told.nd
  have hu64 := hr.units
  have hu := Nat.lt_of_le_of_lt (Nat.add_le_add_left (show 1 ≤ 64 by decide) _) hu64
  exact ⟨_, q__law_is_told T.c_Row.C sp_Row___eq__ sp_Row___repr__ sp_Row___str__ sp__law_like sp__law_text, (qss_cons (qs_setN 2 nd (q_tup (qa_cons (q_fld T.c_Row.cl (T.c_Row.no _ (by simp)) (qv 0) (fs := F_Row) (i := 0) (by decide +kernel)) (qa_cons (q_fld T.c_Row.cl (T.c_Row.no _ (by simp)) (qv 0) (fs := F_Row) (i := 1) (by decide +kernel)) (qa_cons (q_fld T.c_Row.cl (T.c_Row.no _ (by simp)) (qv 0) (fs := F_Row) (i := 2) (by decide +kernel)) (qa_cons (q_fld T.c_Row.cl (T.c_Row.no _ (by simp)) (qv 0) (fs := F_Row) (i := 3) (by decide +kernel)) (qa_cons (q_fld T.c_Row.cl (T.c_Row.no _ (by simp)) (qv 0) (fs := F_Row) (i := 4) (by decide +kernel)) qa_nil)))))))
  (qss_cons (qs_if (QW.t (qw_or (qt_not (qt_val (q_call G__law_like hr tk rfl T.f__law_like.g T.f__law_like.F.kp T.f__law_like.b .nil (fun _ => rfl) (qa_cons (qv 2) (qa_cons (qv 1) qa_nil))))) (qw_or1 (qt_cmp (o_ne hu64) (q_callTy (c_strO G_Row___str__ T.f_Row___str__.m T.f_Row___str__.b (hr.mono (by omega))) rfl T.n_str (by decide +kernel) (qa_cons (qv 0) qa_nil)) (q_call G__law_text hr tk rfl T.f__law_text.g T.f__law_text.F.kp T.f__law_text.b .nil (fun _ => rfl) (qa_cons (qv 1) qa_nil))))))
  (qss_one (qs_ret q_bl))
  qss_nil)
  (qss_cons (qs_if (qt_cmp (o_ne hu64) (q_callB (c_reprO G_Row___repr__ T.f_Row___repr__.m T.f_Row___repr__.b (hr.mono (by omega))) rfl T.n_repr (by decide +kernel) (qa_cons (qv 0) qa_nil)) (q_op (o_add false) (q_op (o_add false) q_str (q_callTy c_str rfl T.n_str (by decide +kernel) (qa_cons (q_ix hu (qv 1) q_int) qa_nil))) q_str))
  (qss_one (qs_ret q_bl))
  qss_nil)
  (qss_one (qs_ret (q_not (q_callB (c_any rfl) rfl T.n_any (by decide +kernel) (qa_cons (q_lcX (own := [("_law_thing", 3)]) false rfl nd (qi_any (q_tup (qa_cons q_non (qa_cons (qv 1) (qa_cons (q_callTy (c_strO G_Row___str__ T.f_Row___str__.m T.f_Row___str__.b (hr.mono (by omega))) rfl T.n_str (by decide +kernel) (qa_cons (qv 0) qa_nil)) (qa_cons (q_ix hu (qv 1) q_int) (qa_cons (q_lst false (qa_cons (qv 0) qa_nil)) qa_nil))))))) (blkOk_by (own := [("_law_thing", 3)]) (N := N__law_is_told) (sc := defScope s__law_is_told) (by decide +kernel)) (fun _ _ _ _ _ => ⟨_, (qg_nm 3 nd)⟩) (fun _ _ _ _ _ => ⟨_, qts_nil⟩) (fun _ _ _ _ _ => ⟨_, (q_cmp (o_ownXEq G_Row___eq__ T.f_Row___eq__.m T.f_Row___eq__.b (hr.mono (Nat.le_of_succ_le he_Row))) (qv 0) (qv 3))⟩)) qa_nil)))))))), hs⟩
def q_law (c_Row : Addr) (sp_Row___eq__ : DSp) (sp_Row___init__ : DSp) (sp_Row___str__ : DSp) (sp__law_bag : DSp) (sp__law_deed : DSp) (sp__law_engines : DSp) (sp__law_five : DSp) (sp__law_ground : DSp) (sp__law_is_told : DSp) (sp__law_other : DSp) : DTS :=
  (qSeq (qAsg (qCall sp__law_bag [] (qCons (qVar 0) (qCons (qC (.int 0)) qNil))) (gNameD 1))
  (qSeq (qAsg (qCall sp__law_ground [] (qCons (qVar 1) qNil)) (gNameD 2))
  (qSeq (qAsg (qCall sp__law_engines [] (qCons (qVar 1) (qCons (qOp dIx (qVar 2) (qC (.int 2))) qNil))) (gNameD 3))
  (qSeq (qAsg (qTup (qCons (qLst true qNil) (qCons (qLst true qNil) qNil))) (gTupD 2 (gConsD (gNameD 4) (gConsD (gNameD 5) gNilD))))
  (qSeq (qFor (qiRng1 (qCons (qCB dMax2 (qCons (qC (.int 3)) (qCons (qCB dMin2 (qCons (qC (.int 8)) (qCons (qOp (dInt0 fun i j => i - j) (qCB dLen (qCons (qVar 0) qNil)) (qC (.int 1))) qNil))) qNil))) qNil)) (gNameD 6)
  (qSeq (qAsg (qCall sp__law_bag [] (qCons (qVar 0) (qCons (qOp (dAdd false) (qC (.int 1)) (qVar 6)) qNil))) (gNameD 1))
  (qSeq (qAsg (qCall sp__law_five [] (qCons (qVar 1) (qCons (qVar 2) (qCons (qVar 3) qNil)))) (gNameD 7))
  (qSeq (qAsg (qFrzE (qMake c_Row sp_Row___init__ [] (qCons (qOp dIx (qVar 7) (qC (.int 0))) (qCons (qOp dIx (qVar 7) (qC (.int 1))) (qCons (qOp dIx (qVar 7) (qC (.int 2))) (qCons (qOp dIx (qVar 7) (qC (.int 3))) (qCons (qOp dIx (qVar 7) (qC (.int 4))) qNil))))))) (gNameD 8))
  (qSeq (qAsg (qFrzE (qMakeKw c_Row 1 5 sp_Row___init__ [0, 4, 5, 3, 1, 2] qNil (qCons (qOp dIx (qVar 7) (qC (.int 3))) (qCons (qOp dIx (qVar 7) (qC (.int 4))) (qCons (qOp dIx (qVar 7) (qC (.int 2))) (qCons (qOp dIx (qVar 7) (qC (.int 0))) (qCons (qOp dIx (qVar 7) (qC (.int 1))) qNil))))))) (gNameD 9))
  (qSeq (qAsg (qCall sp__law_other [] (qCons (qVar 1) (qCons (qVar 7) (qCons (qCall sp__law_deed [] (qCons (qVar 1) (qCons (qVar 2) (qCons (qVar 3) (qCons (qLst false qNil) qNil))))) qNil)))) (gNameD 10))
  (qSeq (qAsg (qFrzE (qMakeKw c_Row 5 1 sp_Row___init__ [0, 1, 2, 3, 4, 5] (qCons (qOp dIx (qVar 10) (qC (.int 0))) (qCons (qOp dIx (qVar 10) (qC (.int 1))) (qCons (qOp dIx (qVar 10) (qC (.int 2))) (qCons (qOp dIx (qVar 10) (qC (.int 3))) qNil)))) (qCons (qOp dIx (qVar 10) (qC (.int 4))) qNil))) (gNameD 11))
  (qSeq (qIfS (qOr (qNot (qTB (qCall sp__law_is_told [] (qCons (qVar 8) (qCons (qVar 7) qNil))))) (qOr (qNot (qTB (qCall sp__law_is_told [] (qCons (qVar 9) (qCons (qVar 7) qNil))))) (qNot (qTB (qCall sp__law_is_told [] (qCons (qVar 11) (qCons (qVar 10) qNil)))))))
  (qRet (qC (.bl false)))
  qNext)
  (qSeq (qAsg (qOp (dEq false) (qVar 7) (qVar 10)) (gNameD 12))
  (qSeq (qIfS (qOr (qNot (qTB (qOp (dOwn false c_Row sp_Row___eq__) (qVar 8) (qVar 9)))) (qOr (qTB (qOp (dOwn true c_Row sp_Row___eq__) (qVar 8) (qVar 9))) (qOr (qTB (qOp (dEq true) (qOp (dOwn false c_Row sp_Row___eq__) (qVar 8) (qVar 11)) (qVar 12))) (qTB (qOp (dEq true) (qOp (dOwn false c_Row sp_Row___eq__) (qVar 11) (qVar 8)) (qVar 12))))))
  (qRet (qC (.bl false)))
  qNext)
  (qSeq (qIfS (qOr (qTB (qOp (dEq true) (qOp (dInOR c_Row sp_Row___eq__) (qVar 8) (qVar 4)) (qOp (dInD false) (qVar 7) (qVar 5)))) (qTB (qOp (dEqO true c_Row sp_Row___eq__) (qOp (dAdd false) (qVar 4) (qLst false (qCons (qVar 9) qNil))) (qOp (dAdd false) (qVar 4) (qLst false (qCons (qVar 8) qNil))))))
  (qRet (qC (.bl false)))
  qNext)
  (qSeq (qDrop (qBM "list" mApp (qVar 4) (qCons (qVar 8) qNil)))
  (qDrop (qBM "list" mApp (qVar 5) (qCons (qVar 7) qNil)))))))))))))))
  (qSeq (qAsg (qFrzE (qMake c_Row sp_Row___init__ [(.int 0)] (qCons (qC (.int 1)) (qCons (qC (.int 5)) (qCons (qC (.int 4)) (qCons (qTup (qCons (qC (.str (PySem.Str.ofString "nothing"))) qNil)) qNil)))))) (gNameD 13))
  (qSeq (qIfS (qOr (qTB (qOp (dEq true) (qFld c_Row F_Row 4 (qVar 13)) (qC (.int 0)))) (qTB (qOp (dEq true) (qCB (dOwn1 c_Row fitStrD sp_Row___str__) (qCons (qVar 13) qNil)) (qC (.str (PySem.Str.ofString "1 0 00:05 0 00:04 nothing"))))))
  (qRet (qC (.bl false)))
  qNext)
  (qRet (qCB dAll (qCons (qLc false (qiAny (qVar 4)) (gNameD 8) qYes (qOp (dInOR c_Row sp_Row___eq__) (qVar 8) (qUn (dRev false) (qVar 4))) [8]) qNil))))))))))
theorem dv_law {k : Nat} (T : Tx w K mg) {ki_Row : Nat} (hi_Row : ki_Row + 1 ≤ k) {ke_Row : Nat} (he_Row : ke_Row + 1 ≤ k) {kn_Row_str : Nat} (hn_Row_str : kn_Row_str + 2 ≤ k) {sp_Row___eq__ : DSp} (G_Row___eq__ : FnOk P w K mg base (L2.CX P w) ke_Row T.f_Row___eq__.f T.f_Row___eq__.fd ["self", "other"] (toSp K sp_Row___eq__)) {sp_Row___init__ : DSp} (G_Row___init__ : FnOk P w K mg base (L2.CX P w) ki_Row T.f_Row___init__.f T.f_Row___init__.fd ["self", "number", "written", "at", "deed", "right"] (toSp K sp_Row___init__)) {sp_Row___str__ : DSp} (G_Row___str__ : FnOk P w K mg base (L2.CX P w) kn_Row_str T.f_Row___str__.f T.f_Row___str__.fd ["self"] (toSp K sp_Row___str__)) {sp__law_bag : DSp} (G__law_bag : FnOk P w K mg base (L2.CX P w) k T.f__law_bag.f T.f__law_bag.fd ["_law_script", "_law_spot"] (toSp K sp__law_bag)) {sp__law_deed : DSp} (G__law_deed : FnOk P w K mg base (L2.CX P w) k T.f__law_deed.f T.f__law_deed.fd ["_law_bag_here", "_law_told", "_law_engines_here", "_law_calls"] (toSp K sp__law_deed)) {sp__law_engines : DSp} (G__law_engines : FnOk P w K mg base (L2.CX P w) k T.f__law_engines.f T.f__law_engines.fd ["_law_bag_here", "_law_stations"] (toSp K sp__law_engines)) {sp__law_five : DSp} (G__law_five : FnOk P w K mg base (L2.CX P w) k T.f__law_five.f T.f__law_five.fd ["_law_bag_here", "_law_told", "_law_engines_here"] (toSp K sp__law_five)) {sp__law_ground : DSp} (G__law_ground : FnOk P w K mg base (L2.CX P w) k T.f__law_ground.f T.f__law_ground.fd ["_law_bag_here"] (toSp K sp__law_ground)) {sp__law_is_told : DSp} (G__law_is_told : FnOk P w K mg base (L2.CX P w) k T.f__law_is_told.f T.f__law_is_told.fd ["_law_row", "_law_five_here"] (toSp K sp__law_is_told)) {sp__law_other : DSp} (G__law_other : FnOk P w K mg base (L2.CX P w) k T.f__law_other.f T.f__law_other.fd ["_law_bag_here", "_law_five_here", "_law_what"] (toSp K sp__law_other)) {p : DSp} (hlen : ∀ ds M Q E, p ds M Q E → ds.length = 1)
    (hs : ∀ ds M Q Ed, upSp p ds M Q Ed → q_law T.c_Row.C sp_Row___eq__ sp_Row___init__ sp_Row___str__ sp__law_bag sp__law_deed sp__law_engines sp__law_five sp__law_ground sp__law_is_told sp__law_other (fun x _ M => Ed x M) (retE Q) (startD N_law ds) M) : FnOk P w K mg base (L2.CX P w) (k + 1) T.f_law.f T.f_law.fd ["_law_script"] (toSp K p) := by
  refine (fn_ok (p := upSp p) T.f_law.F sc_law (fun ds M Q E ⟨Q0, E0, h, _⟩ => hlen ds M Q0 E0 h) fun cdv A outer s H E hr tk hp => ?_).imp fun _ _ _ _ h => imp_up h
  have nd := sc_law.nd
  have hu64 := hr.units
  have hu := Nat.lt_of_le_of_lt (Nat.add_le_add_left (show 1 ≤ 64 by decide) _) hu64
  exact ⟨_, q_law T.c_Row.C sp_Row___eq__ sp_Row___init__ sp_Row___str__ sp__law_bag sp__law_deed sp__law_engines sp__law_five sp__law_ground sp__law_is_told sp__law_other, (qss_cons (qs_setN 1 nd (q_call G__law_bag hr tk rfl T.f__law_bag.g T.f__law_bag.F.kp T.f__law_bag.b .nil (fun _ => rfl) (qa_cons (qv 0) (qa_cons q_int qa_nil))))
  (qss_cons (qs_setN 2 nd (q_call G__law_ground hr tk rfl T.f__law_ground.g T.f__law_ground.F.kp T.f__law_ground.b .nil (fun _ => rfl) (qa_cons (qv 1) qa_nil)))
  (qss_cons (qs_setN 3 nd (q_call G__law_engines hr tk rfl T.f__law_engines.g T.f__law_engines.F.kp T.f__law_engines.b .nil (fun _ => rfl) (qa_cons (qv 1) (qa_cons (q_ix hu (qv 2) q_int) qa_nil))))
  (qss_cons (qs_asg (ix := [4, 5]) (q_tup (qa_cons (q_lst true qa_nil) (qa_cons (q_lst true qa_nil) qa_nil))) (qg_tup rfl (qgs_cons (qg_nm 4 nd) (qgs_cons (qg_nm 5 nd) qgs_nil))))
  (qss_cons (qs_for (ix := [6]) hp rfl (qi_range1 rfl T.n_range (qa_cons (q_callB (c_max2 rfl) rfl T.n_max (by decide +kernel) (qa_cons q_int (qa_cons (q_callB (c_min2 rfl) rfl T.n_min (by decide +kernel) (qa_cons q_int (qa_cons (q_op o_sub (q_callB c_len rfl T.n_len (by decide +kernel) (qa_cons (qv 0) qa_nil)) q_int) qa_nil))) qa_nil))) qa_nil)) (qg_nm 6 nd)
  (qss_cons (qs_setN 1 nd (q_call G__law_bag hr tk rfl T.f__law_bag.g T.f__law_bag.F.kp T.f__law_bag.b .nil (fun _ => rfl) (qa_cons (qv 0) (qa_cons (q_op (o_add false) q_int (qv 6)) qa_nil))))
  (qss_cons (qs_setN 7 nd (q_call G__law_five hr tk rfl T.f__law_five.g T.f__law_five.F.kp T.f__law_five.b .nil (fun _ => rfl) (qa_cons (qv 1) (qa_cons (qv 2) (qa_cons (qv 3) qa_nil)))))
  (qss_cons (qs_setN 8 nd (q_frzE (q_makeD (dds := []) (T.mk_Row) G_Row___init__ (hr.mono hi_Row) tk rfl T.c_Row.g T.b_Row___init___6 (fun _ => rfl) (qa_cons (q_ix hu (qv 7) q_int) (qa_cons (q_ix hu (qv 7) q_int) (qa_cons (q_ix hu (qv 7) q_int) (qa_cons (q_ix hu (qv 7) q_int) (qa_cons (q_ix hu (qv 7) q_int) qa_nil))))))))
  (qss_cons (qs_setN 9 nd (q_frzE (q_makeK0 (ks := ["deed", "right", "at", "number", "written"]) (idx := [0, 4, 5, 3, 1, 2]) (T.mk_Row) G_Row___init__ (hr.mono hi_Row) tk rfl T.c_Row.g T.kw_Row___init___1_deed_right_at_number_written (qk_cons (q_ix hu (qv 7) q_int) (qk_cons (q_ix hu (qv 7) q_int) (qk_cons (q_ix hu (qv 7) q_int) (qk_cons (q_ix hu (qv 7) q_int) (qk_cons (q_ix hu (qv 7) q_int) qk_nil))))))))
  (qss_cons (qs_setN 10 nd (q_call G__law_other hr tk rfl T.f__law_other.g T.f__law_other.F.kp T.f__law_other.b .nil (fun _ => rfl) (qa_cons (qv 1) (qa_cons (qv 7) (qa_cons (q_call G__law_deed hr tk rfl T.f__law_deed.g T.f__law_deed.F.kp T.f__law_deed.b .nil (fun _ => rfl) (qa_cons (qv 1) (qa_cons (qv 2) (qa_cons (qv 3) (qa_cons (q_lst false qa_nil) qa_nil))))) qa_nil)))))
  (qss_cons (qs_setN 11 nd (q_frzE (q_makeK (ks := ["right"]) (n := 5) (idx := [0, 1, 2, 3, 4, 5]) (T.mk_Row) G_Row___init__ (hr.mono hi_Row) tk rfl T.c_Row.g T.kw_Row___init___5_right (qa_cons (q_ix hu (qv 10) q_int) (qa_cons (q_ix hu (qv 10) q_int) (qa_cons (q_ix hu (qv 10) q_int) (qa_cons (q_ix hu (qv 10) q_int) qa_nil)))) (qk_cons (q_ix hu (qv 10) q_int) qk_nil))))
  (qss_cons (qs_if (QW.t (qw_or (qt_not (qt_val (q_call G__law_is_told hr tk rfl T.f__law_is_told.g T.f__law_is_told.F.kp T.f__law_is_told.b .nil (fun _ => rfl) (qa_cons (qv 8) (qa_cons (qv 7) qa_nil))))) (qw_or (qt_not (qt_val (q_call G__law_is_told hr tk rfl T.f__law_is_told.g T.f__law_is_told.F.kp T.f__law_is_told.b .nil (fun _ => rfl) (qa_cons (qv 9) (qa_cons (qv 7) qa_nil))))) (qw_or1 (qt_not (qt_val (q_call G__law_is_told hr tk rfl T.f__law_is_told.g T.f__law_is_told.F.kp T.f__law_is_told.b .nil (fun _ => rfl) (qa_cons (qv 11) (qa_cons (qv 10) qa_nil)))))))))
  (qss_one (qs_ret q_bl))
  qss_nil)
  (qss_cons (qs_setN 12 nd (q_cmp (o_eq hu64) (qv 7) (qv 10)))
  (qss_cons (qs_if (QW.t (qw_or (qt_not (qt_cmp (o_ownEq G_Row___eq__ T.f_Row___eq__.m T.f_Row___eq__.b (hr.mono (Nat.le_of_succ_le he_Row))) (qv 8) (qv 9))) (qw_or (qt_cmp (o_ownNe G_Row___eq__ T.f_Row___eq__.m T.ne_Row T.ob_Row T.f_Row___eq__.b (hr.mono he_Row)) (qv 8) (qv 9)) (qw_or (qt_cmp (o_ne hu64) (q_cmp (o_ownEq G_Row___eq__ T.f_Row___eq__.m T.f_Row___eq__.b (hr.mono (Nat.le_of_succ_le he_Row))) (qv 8) (qv 11)) (qv 12)) (qw_or1 (qt_cmp (o_ne hu64) (q_cmp (o_ownEq G_Row___eq__ T.f_Row___eq__.m T.f_Row___eq__.b (hr.mono (Nat.le_of_succ_le he_Row))) (qv 11) (qv 8)) (qv 12)))))))
  (qss_one (qs_ret q_bl))
  qss_nil)
  (qss_cons (qs_if (QW.t (qw_or (qt_cmp (o_ne hu64) (q_cmp (o_inOR G_Row___eq__ T.f_Row___eq__.m T.f_Row___eq__.b (hr.mono he_Row)) (qv 8) (qv 4)) (q_cmp (o_inD (room65 hr)) (qv 7) (qv 5))) (qw_or1 (qt_cmp (o_neO G_Row___eq__ T.f_Row___eq__.m T.f_Row___eq__.b (hr.mono he_Row)) (q_op (o_add false) (qv 4) (q_lst false (qa_cons (qv 9) qa_nil))) (q_op (o_add false) (qv 4) (q_lst false (qa_cons (qv 8) qa_nil)))))))
  (qss_one (qs_ret q_bl))
  qss_nil)
  (qss_cons (qs_expr (q_bm PySem.F.plainAttrs_list PySem.F.slot_list_append PySem.F.type_list_append m_append (qv 4) (qa_cons (qv 8) qa_nil)))
  (qss_one (qs_expr (q_bm PySem.F.plainAttrs_list PySem.F.slot_list_append PySem.F.type_list_append m_append (qv 5) (qa_cons (qv 7) qa_nil))))))))))))))))
  (qss_cons (qs_setN 13 nd (q_frzE (q_makeD (dds := [(.int 0)]) (T.mk_Row) G_Row___init__ (hr.mono hi_Row) tk rfl T.c_Row.g T.b_Row___init___5 (fun _ => ⟨_, _, rfl, rfl, rfl⟩) (qa_cons q_int (qa_cons q_int (qa_cons q_int (qa_cons (q_tup (qa_cons q_str qa_nil)) qa_nil)))))))
  (qss_cons (qs_if (QW.t (qw_or (qt_cmp (o_ne hu64) (q_fld T.c_Row.cl (T.c_Row.no _ (by simp)) (qv 13) (fs := F_Row) (i := 4) (by decide +kernel)) q_int) (qw_or1 (qt_cmp (o_ne hu64) (q_callTy (c_strO G_Row___str__ T.f_Row___str__.m T.f_Row___str__.b (hr.mono (by omega))) rfl T.n_str (by decide +kernel) (qa_cons (qv 13) qa_nil)) q_str))))
  (qss_one (qs_ret q_bl))
  qss_nil)
  (qss_one (qs_ret (q_callB (c_all rfl) rfl T.n_all (by decide +kernel) (qa_cons (q_lcX (own := [("_law_row", 8)]) false rfl nd (qi_any (qv 4)) (blkOk_by (own := [("_law_row", 8)]) (N := N_law) (sc := defScope s_law) (by decide +kernel)) (fun _ _ _ _ _ => ⟨_, (qg_nm 8 nd)⟩) (fun _ _ _ _ _ => ⟨_, qts_nil⟩) (fun _ _ _ _ _ => ⟨_, (q_cmp (o_inOR G_Row___eq__ T.f_Row___eq__.m T.f_Row___eq__.b (hr.mono he_Row)) (qv 8) (q_rev false (qv 4)))⟩)) qa_nil))))))))))), hs⟩
end
theorem all_mk {l : PySem.W.OpenLaw} {w : World} {K : PySem.W.Frag} {h : Heap} {mg : Str → Option Value} {fa f0 f1 f2 f3 f4 f5 f6 f7 f8 f9 f10 f11 f12 f13 f14 f15 f16 f17 f18 f19 f20 : Addr} (X : K.In h) (G : h.Ns mainGlobals mg) (hfa : mg "law" = some (.ref fa))
    {od0 an0 od1 an1 od2 an2 od3 an3 od4 an4 od5 an5 od6 an6 od7 an7 od8 an8 od9 an9 od10 an10 od11 an11 od12 an12 od13 an13 od14 an14 od15 an15 od16 an16 od17 an17 od18 an18 od19 an19 od20 an20 : Option Addr} {sl0 sl1 sl2 sl3 sl4 sl5 sl6 sl7 sl8 sl9 sl10 sl11 sl12 sl13 sl14 sl15 sl16 sl17 sl18 sl19 sl20 : Array (Option Value)} {oc0 kV0 dc0 pm0 cd0 ct0 oc1 kV1 dc1 pm1 cd1 ct1 oc2 kV2 dc2 pm2 cd2 ct2 oc3 kV3 dc3 pm3 cd3 ct3 oc4 kV4 dc4 pm4 cd4 ct4 oc5 kV5 dc5 pm5 cd5 ct5 oc6 kV6 dc6 pm6 cd6 ct6 oc7 kV7 dc7 pm7 cd7 ct7 oc8 kV8 dc8 pm8 cd8 ct8 oc9 kV9 dc9 pm9 cd9 ct9 oc10 kV10 dc10 pm10 cd10 ct10 oc11 kV11 dc11 pm11 cd11 ct11 oc12 kV12 dc12 pm12 cd12 ct12 oc13 kV13 dc13 pm13 cd13 ct13 oc14 kV14 dc14 pm14 cd14 ct14 oc15 kV15 dc15 pm15 cd15 ct15 oc16 kV16 dc16 pm16 cd16 ct16 oc17 kV17 dc17 pm17 cd17 ct17 oc18 kV18 dc18 pm18 cd18 ct18 oc19 kV19 dc19 pm19 cd19 ct19 oc20 kV20 dc20 pm20 cd20 ct20 : Value}
    {oC0 : Addr} (oa0 : PySem.W.nsIn K mainGlobals "Row" = some (some (.ref oC0)))
    (qne0 : PySem.W.findIn K (.ref oC0) "__ne__" = some (some (.builtin "object.__ne__")))
    (qob0 : PySem.W.mroIn K oC0 (.type "object") = some true)
    (opg0 : PySem.W.plainGet K oC0 Str.empty = true)
    (ohd0 : PySem.W.hasDictIn K oC0 = true)
    (opo0 : PySem.W.plainOver K oC0 = true)
    (osa0 : PySem.W.findIn K (.ref oC0) "__setattr__" = some (some (.builtin "object.__setattr__")))
    (on0_0 : PySem.W.findIn K (.ref oC0) "number" = some none)
    (on1_0 : PySem.W.findIn K (.ref oC0) "written" = some none)
    (on2_0 : PySem.W.findIn K (.ref oC0) "at" = some none)
    (on3_0 : PySem.W.findIn K (.ref oC0) "deed" = some none)
    (on4_0 : PySem.W.findIn K (.ref oC0) "right" = some none)
    (omk0 : PySem.W.makesIn K oC0 = true)
    (okc0 : PySem.W.keepIn K (.ref oC0) = true)
    (oha0 : PySem.W.findIn K (.ref oC0) "__class__" = some (some (.builtin "object.__class__")))
    (ohn0 : PySem.W.specialIn K (.builtin "object.__class__") "__get__" = some (some (.builtin "getset_descriptor.__get__")))
    (oht0 : PySem.W.takesIn K (.builtin "object.__class__") = some true)
    (ohm0 : PySem.W.mroIn K oC0 (.type "object") = some true)
    (kio0 : PySem.W.kitOne K (.ref oC0) (.ref oC0) = some true)
    (ki0o0 : PySem.W.kitOne K (.type "NoneType") (.ref oC0) = some false)
    (ki1o0 : PySem.W.kitOne K (.type "bool") (.ref oC0) = some false)
    (ki2o0 : PySem.W.kitOne K (.type "int") (.ref oC0) = some false)
    (ki3o0 : PySem.W.kitOne K (.type "str") (.ref oC0) = some false)
    (ki4o0 : PySem.W.kitOne K (.type "tuple") (.ref oC0) = some false)
    (ki5o0 : PySem.W.kitOne K (.type "list") (.ref oC0) = some false)
    (ki6o0 : PySem.W.kitOne K (.type "dict") (.ref oC0) = some false)
    (a0 : PySem.W.nsIn K mainGlobals "shown" = some (some (.ref f0)))
    (l0 : K.lookup f0 = some ⟨oc0, od0, .func (PySem.W.fnOf "shown" "shown" (defArgs s_shown) (defBody s_shown) (defScope s_shown) .none kV0 dc0 pm0 an0 cd0 ct0), sl0⟩) (c0 : PySem.W.codeIn K cd0 "shown" = true) (k0 : PySem.W.keepIn K (.ref f0) = true)
    (a1 : PySem.W.nsIn K mainGlobals "text_of" = some (some (.ref f1)))
    (l1 : K.lookup f1 = some ⟨oc1, od1, .func (PySem.W.fnOf "text_of" "text_of" (defArgs s_text_of) (defBody s_text_of) (defScope s_text_of) .none kV1 dc1 pm1 an1 cd1 ct1), sl1⟩) (c1 : PySem.W.codeIn K cd1 "text_of" = true) (k1 : PySem.W.keepIn K (.ref f1) = true)
    {dT2 : Addr} {dc_2 : Value} {dd_2 : Option Addr} {dn_2 : Nat} {ds_2 : Array (Option Value)} {dk2_0 : Tok}
    (a2 : PySem.W.findIn K (.ref oC0) "__init__" = some (some (.ref f2))) (b2 : PySem.W.isFn K (.ref f2) = true)
    (l2 : K.lookup f2 = some ⟨oc2, od2, .func (PySem.W.fnOf "__init__" "Row.__init__" (defArgs s_Row___init__) (defBody s_Row___init__) (defScope s_Row___init__) (.ref dT2) kV2 dc2 pm2 an2 cd2 ct2), sl2⟩) (c2 : PySem.W.codeIn K cd2 "Row.__init__" = true) (k2 : PySem.W.keepIn K (.ref f2) = true)
    (dl2 : K.lookup dT2 = some ⟨dc_2, dd_2, .seq ([.int 0 dk2_0] : List Value).toArray dn_2, ds_2⟩)
    (a3 : PySem.W.findIn K (.ref oC0) "five" = some (some (.ref f3))) (b3 : PySem.W.isFn K (.ref f3) = true)
    (l3 : K.lookup f3 = some ⟨oc3, od3, .func (PySem.W.fnOf "five" "Row.five" (defArgs s_Row_five) (defBody s_Row_five) (defScope s_Row_five) .none kV3 dc3 pm3 an3 cd3 ct3), sl3⟩) (c3 : PySem.W.codeIn K cd3 "Row.five" = true) (k3 : PySem.W.keepIn K (.ref f3) = true)
    (a4 : PySem.W.findIn K (.ref oC0) "__eq__" = some (some (.ref f4))) (b4 : PySem.W.isFn K (.ref f4) = true)
    (l4 : K.lookup f4 = some ⟨oc4, od4, .func (PySem.W.fnOf "__eq__" "Row.__eq__" (defArgs s_Row___eq__) (defBody s_Row___eq__) (defScope s_Row___eq__) .none kV4 dc4 pm4 an4 cd4 ct4), sl4⟩) (c4 : PySem.W.codeIn K cd4 "Row.__eq__" = true) (k4 : PySem.W.keepIn K (.ref f4) = true)
    (a5 : PySem.W.findIn K (.ref oC0) "__str__" = some (some (.ref f5))) (b5 : PySem.W.isFn K (.ref f5) = true)
    (l5 : K.lookup f5 = some ⟨oc5, od5, .func (PySem.W.fnOf "__str__" "Row.__str__" (defArgs s_Row___str__) (defBody s_Row___str__) (defScope s_Row___str__) .none kV5 dc5 pm5 an5 cd5 ct5), sl5⟩) (c5 : PySem.W.codeIn K cd5 "Row.__str__" = true) (k5 : PySem.W.keepIn K (.ref f5) = true)
    (a6 : PySem.W.findIn K (.ref oC0) "__repr__" = some (some (.ref f6))) (b6 : PySem.W.isFn K (.ref f6) = true)
    (l6 : K.lookup f6 = some ⟨oc6, od6, .func (PySem.W.fnOf "__repr__" "Row.__repr__" (defArgs s_Row___repr__) (defBody s_Row___repr__) (defScope s_Row___repr__) .none kV6 dc6 pm6 an6 cd6 ct6), sl6⟩) (c6 : PySem.W.codeIn K cd6 "Row.__repr__" = true) (k6 : PySem.W.keepIn K (.ref f6) = true)
    (a7 : PySem.W.nsIn K mainGlobals "_law_bag" = some (some (.ref f7)))
    (l7 : K.lookup f7 = some ⟨oc7, od7, .func (PySem.W.fnOf "_law_bag" "_law_bag" (defArgs s__law_bag) (defBody s__law_bag) (defScope s__law_bag) .none kV7 dc7 pm7 an7 cd7 ct7), sl7⟩) (c7 : PySem.W.codeIn K cd7 "_law_bag" = true) (k7 : PySem.W.keepIn K (.ref f7) = true)
    (a8 : PySem.W.nsIn K mainGlobals "_law_take" = some (some (.ref f8)))
    (l8 : K.lookup f8 = some ⟨oc8, od8, .func (PySem.W.fnOf "_law_take" "_law_take" (defArgs s__law_take) (defBody s__law_take) (defScope s__law_take) .none kV8 dc8 pm8 an8 cd8 ct8), sl8⟩) (c8 : PySem.W.codeIn K cd8 "_law_take" = true) (k8 : PySem.W.keepIn K (.ref f8) = true)
    (a9 : PySem.W.nsIn K mainGlobals "_law_names" = some (some (.ref f9)))
    (l9 : K.lookup f9 = some ⟨oc9, od9, .func (PySem.W.fnOf "_law_names" "_law_names" (defArgs s__law_names) (defBody s__law_names) (defScope s__law_names) .none kV9 dc9 pm9 an9 cd9 ct9), sl9⟩) (c9 : PySem.W.codeIn K cd9 "_law_names" = true) (k9 : PySem.W.keepIn K (.ref f9) = true)
    (a10 : PySem.W.nsIn K mainGlobals "_law_ground" = some (some (.ref f10)))
    (l10 : K.lookup f10 = some ⟨oc10, od10, .func (PySem.W.fnOf "_law_ground" "_law_ground" (defArgs s__law_ground) (defBody s__law_ground) (defScope s__law_ground) .none kV10 dc10 pm10 an10 cd10 ct10), sl10⟩) (c10 : PySem.W.codeIn K cd10 "_law_ground" = true) (k10 : PySem.W.keepIn K (.ref f10) = true)
    (a11 : PySem.W.nsIn K mainGlobals "_law_engines" = some (some (.ref f11)))
    (l11 : K.lookup f11 = some ⟨oc11, od11, .func (PySem.W.fnOf "_law_engines" "_law_engines" (defArgs s__law_engines) (defBody s__law_engines) (defScope s__law_engines) .none kV11 dc11 pm11 an11 cd11 ct11), sl11⟩) (c11 : PySem.W.codeIn K cd11 "_law_engines" = true) (k11 : PySem.W.keepIn K (.ref f11) = true)
    (a12 : PySem.W.nsIn K mainGlobals "_law_deed" = some (some (.ref f12)))
    (l12 : K.lookup f12 = some ⟨oc12, od12, .func (PySem.W.fnOf "_law_deed" "_law_deed" (defArgs s__law_deed) (defBody s__law_deed) (defScope s__law_deed) .none kV12 dc12 pm12 an12 cd12 ct12), sl12⟩) (c12 : PySem.W.codeIn K cd12 "_law_deed" = true) (k12 : PySem.W.keepIn K (.ref f12) = true)
    (a13 : PySem.W.nsIn K mainGlobals "_law_kind" = some (some (.ref f13)))
    (l13 : K.lookup f13 = some ⟨oc13, od13, .func (PySem.W.fnOf "_law_kind" "_law_kind" (defArgs s__law_kind) (defBody s__law_kind) (defScope s__law_kind) .none kV13 dc13 pm13 an13 cd13 ct13), sl13⟩) (c13 : PySem.W.codeIn K cd13 "_law_kind" = true) (k13 : PySem.W.keepIn K (.ref f13) = true)
    (a14 : PySem.W.nsIn K mainGlobals "_law_like" = some (some (.ref f14)))
    (l14 : K.lookup f14 = some ⟨oc14, od14, .func (PySem.W.fnOf "_law_like" "_law_like" (defArgs s__law_like) (defBody s__law_like) (defScope s__law_like) .none kV14 dc14 pm14 an14 cd14 ct14), sl14⟩) (c14 : PySem.W.codeIn K cd14 "_law_like" = true) (k14 : PySem.W.keepIn K (.ref f14) = true)
    (a15 : PySem.W.nsIn K mainGlobals "_law_shown" = some (some (.ref f15)))
    (l15 : K.lookup f15 = some ⟨oc15, od15, .func (PySem.W.fnOf "_law_shown" "_law_shown" (defArgs s__law_shown) (defBody s__law_shown) (defScope s__law_shown) .none kV15 dc15 pm15 an15 cd15 ct15), sl15⟩) (c15 : PySem.W.codeIn K cd15 "_law_shown" = true) (k15 : PySem.W.keepIn K (.ref f15) = true)
    (a16 : PySem.W.nsIn K mainGlobals "_law_text" = some (some (.ref f16)))
    (l16 : K.lookup f16 = some ⟨oc16, od16, .func (PySem.W.fnOf "_law_text" "_law_text" (defArgs s__law_text) (defBody s__law_text) (defScope s__law_text) .none kV16 dc16 pm16 an16 cd16 ct16), sl16⟩) (c16 : PySem.W.codeIn K cd16 "_law_text" = true) (k16 : PySem.W.keepIn K (.ref f16) = true)
    (a17 : PySem.W.nsIn K mainGlobals "_law_five" = some (some (.ref f17)))
    (l17 : K.lookup f17 = some ⟨oc17, od17, .func (PySem.W.fnOf "_law_five" "_law_five" (defArgs s__law_five) (defBody s__law_five) (defScope s__law_five) .none kV17 dc17 pm17 an17 cd17 ct17), sl17⟩) (c17 : PySem.W.codeIn K cd17 "_law_five" = true) (k17 : PySem.W.keepIn K (.ref f17) = true)
    (a18 : PySem.W.nsIn K mainGlobals "_law_other" = some (some (.ref f18)))
    (l18 : K.lookup f18 = some ⟨oc18, od18, .func (PySem.W.fnOf "_law_other" "_law_other" (defArgs s__law_other) (defBody s__law_other) (defScope s__law_other) .none kV18 dc18 pm18 an18 cd18 ct18), sl18⟩) (c18 : PySem.W.codeIn K cd18 "_law_other" = true) (k18 : PySem.W.keepIn K (.ref f18) = true)
    (a19 : PySem.W.nsIn K mainGlobals "_law_is_told" = some (some (.ref f19)))
    (l19 : K.lookup f19 = some ⟨oc19, od19, .func (PySem.W.fnOf "_law_is_told" "_law_is_told" (defArgs s__law_is_told) (defBody s__law_is_told) (defScope s__law_is_told) .none kV19 dc19 pm19 an19 cd19 ct19), sl19⟩) (c19 : PySem.W.codeIn K cd19 "_law_is_told" = true) (k19 : PySem.W.keepIn K (.ref f19) = true)
    (a20 : PySem.W.nsIn K mainGlobals "law" = some (some (.ref f20)))
    (l20 : K.lookup f20 = some ⟨oc20, od20, .func (PySem.W.fnOf "law" "law" (defArgs s_law) (defBody s_law) (defScope s_law) .none kV20 dc20 pm20 an20 cd20 ct20), sl20⟩) (c20 : PySem.W.codeIn K cd20 "law" = true) (k20 : PySem.W.keepIn K (.ref f20) = true)
    (z0 : PySem.W.nsIn K mainGlobals "abs" = some none)
    (z1 : PySem.W.nsIn K mainGlobals "all" = some none)
    (z2 : PySem.W.nsIn K mainGlobals "any" = some none)
    (z3 : PySem.W.nsIn K mainGlobals "bool" = some none)
    (z4 : PySem.W.nsIn K mainGlobals "divmod" = some none)
    (z5 : PySem.W.nsIn K mainGlobals "int" = some none)
    (z6 : PySem.W.nsIn K mainGlobals "isinstance" = some none)
    (z7 : PySem.W.nsIn K mainGlobals "len" = some none)
    (z8 : PySem.W.nsIn K mainGlobals "list" = some none)
    (z9 : PySem.W.nsIn K mainGlobals "max" = some none)
    (z10 : PySem.W.nsIn K mainGlobals "min" = some none)
    (z11 : PySem.W.nsIn K mainGlobals "range" = some none)
    (z12 : PySem.W.nsIn K mainGlobals "repr" = some none)
    (z13 : PySem.W.nsIn K mainGlobals "str" = some none)
    (z14 : PySem.W.nsIn K mainGlobals "tuple" = some none)
    (z15 : PySem.W.nsIn K mainGlobals "zip" = some none)
    {gt0 : Tok} (lit0 : PySem.W.nsIn K mainGlobals "DAY" = some (some (.int (1440) gt0)))
    {gt1 : Tok} (lit1 : PySem.W.nsIn K mainGlobals "HOUR" = some (some (.int (60) gt1)))
    {k : Nat} (ok : ∀ (T : Tx w K mg) (base : Heap), FnOk l.prog w K mg base (L2.CX l.prog w) k T.f_law.f T.f_law.fd ["_law_script"] (toSp K spLaw)) :
    ∃ fd : FuncData, (∀ (s : Shared) (v : Value), BindsTo s fd ⟨[v], []⟩ [("_law_script", v)]) ∧ ∀ base : Heap, K.In base → base.Ns mainGlobals mg → FnOk l.prog w K mg base (L2.CX l.prog w) k fa fd ["_law_script"] (toSp K spLaw) := by
  have e : fa = f20 := by
    have e := hfa.symm.trans (PySem.W.mg_of X G a20)
    cases e; rfl
  rw [e]
  refine ⟨_, fun s v => ?_, fun base _ _ => ok {
    ne_Row := qne0,
    ob_Row := qob0,
    c_Row := ⟨oC0, PySem.W.mg_of X G oa0, ⟨opg0, ohd0, opo0, osa0⟩, List.forall_mem_cons.mpr ⟨on0_0, List.forall_mem_cons.mpr ⟨on1_0, List.forall_mem_cons.mpr ⟨on2_0, List.forall_mem_cons.mpr ⟨on3_0, List.forall_mem_cons.mpr ⟨on4_0, List.forall_mem_nil _⟩⟩⟩⟩⟩⟩,
    s_Row := ⟨⟨⟨opg0, ohd0, opo0, osa0⟩, oha0, ohn0, oht0, ohm0, kio0⟩, List.forall_mem_cons.mpr ⟨ki0o0, List.forall_mem_cons.mpr ⟨ki1o0, List.forall_mem_cons.mpr ⟨ki2o0, List.forall_mem_cons.mpr ⟨ki3o0, List.forall_mem_cons.mpr ⟨ki4o0, List.forall_mem_cons.mpr ⟨ki5o0, List.forall_mem_cons.mpr ⟨ki6o0, List.forall_mem_nil _⟩⟩⟩⟩⟩⟩⟩⟩,
    f_shown := ⟨f0, _, PySem.W.mg_of X G a0, fun_mk (st := s_shown) l0 c0 k0, (fun_mk (st := s_shown) l0 c0 k0).binds (ps := ["minute"]) fun _ _ _ _ _ _ us hl => match us, hl with | [_], _ => rfl⟩,
    f_text_of := ⟨f1, _, PySem.W.mg_of X G a1, fun_mk (st := s_text_of) l1 c1 k1, (fun_mk (st := s_text_of) l1 c1 k1).binds (ps := ["row"]) fun _ _ _ _ _ _ us hl => match us, hl with | [_], _ => rfl⟩,
    mk_Row := ⟨omk0, a2, b2, okc0⟩,
    f_Row___init__ := ⟨f2, _, ⟨a2, b2, k2⟩, (fund_mk (st := s_Row___init__) (dvs := [(.int 0)]) l2 c2 k2 dl2 rfl (by simp) (.cons ⟨_, rfl⟩ .nil))⟩,
    b_Row___init___6 := FunD.bd (ps := ["self", "number", "written", "at", "deed", "right"]) (fund_mk (st := s_Row___init__) (dvs := [(.int 0)]) l2 c2 k2 dl2 rfl (by simp) (.cons ⟨_, rfl⟩ .nil)) 6 1 (by simp) rfl fun _ _ _ _ _ _ _ us its h1 h2 => match us, its, h1, h2 with | [_, _, _, _, _, _], [_], _, _ => ⟨_, rfl, rfl⟩,
    b_Row___init___5 := FunD.bd (ps := ["self", "number", "written", "at", "deed", "right"]) (fund_mk (st := s_Row___init__) (dvs := [(.int 0)]) l2 c2 k2 dl2 rfl (by simp) (.cons ⟨_, rfl⟩ .nil)) 5 0 (by simp) rfl fun _ _ _ _ _ _ _ us its h1 h2 => match us, its, h1, h2 with | [_, _, _, _, _], [_], _, _ => ⟨_, rfl, rfl⟩,
    f_Row_five := ⟨f3, _, ⟨a3, b3, k3⟩, fun_mk (st := s_Row_five) l3 c3 k3, (fun_mk (st := s_Row_five) l3 c3 k3).binds (ps := ["self"]) fun _ _ _ _ _ _ us hl => match us, hl with | [_], _ => rfl⟩,
    f_Row___eq__ := ⟨f4, _, ⟨a4, b4, k4⟩, fun_mk (st := s_Row___eq__) l4 c4 k4, (fun_mk (st := s_Row___eq__) l4 c4 k4).binds (ps := ["self", "other"]) fun _ _ _ _ _ _ us hl => match us, hl with | [_, _], _ => rfl⟩,
    f_Row___str__ := ⟨f5, _, ⟨a5, b5, k5⟩, fun_mk (st := s_Row___str__) l5 c5 k5, (fun_mk (st := s_Row___str__) l5 c5 k5).binds (ps := ["self"]) fun _ _ _ _ _ _ us hl => match us, hl with | [_], _ => rfl⟩,
    f_Row___repr__ := ⟨f6, _, ⟨a6, b6, k6⟩, fun_mk (st := s_Row___repr__) l6 c6 k6, (fun_mk (st := s_Row___repr__) l6 c6 k6).binds (ps := ["self"]) fun _ _ _ _ _ _ us hl => match us, hl with | [_], _ => rfl⟩,
    f__law_bag := ⟨f7, _, PySem.W.mg_of X G a7, fun_mk (st := s__law_bag) l7 c7 k7, (fun_mk (st := s__law_bag) l7 c7 k7).binds (ps := ["_law_script", "_law_spot"]) fun _ _ _ _ _ _ us hl => match us, hl with | [_, _], _ => rfl⟩,
    f__law_take := ⟨f8, _, PySem.W.mg_of X G a8, fun_mk (st := s__law_take) l8 c8 k8, (fun_mk (st := s__law_take) l8 c8 k8).binds (ps := ["_law_bag_here", "_law_many"]) fun _ _ _ _ _ _ us hl => match us, hl with | [_, _], _ => rfl⟩,
    f__law_names := ⟨f9, _, PySem.W.mg_of X G a9, fun_mk (st := s__law_names) l9 c9 k9, (fun_mk (st := s__law_names) l9 c9 k9).binds (ps := ["_law_bag_here", "_law_many"]) fun _ _ _ _ _ _ us hl => match us, hl with | [_, _], _ => rfl⟩,
    f__law_ground := ⟨f10, _, PySem.W.mg_of X G a10, fun_mk (st := s__law_ground) l10 c10 k10, (fun_mk (st := s__law_ground) l10 c10 k10).binds (ps := ["_law_bag_here"]) fun _ _ _ _ _ _ us hl => match us, hl with | [_], _ => rfl⟩,
    f__law_engines := ⟨f11, _, PySem.W.mg_of X G a11, fun_mk (st := s__law_engines) l11 c11 k11, (fun_mk (st := s__law_engines) l11 c11 k11).binds (ps := ["_law_bag_here", "_law_stations"]) fun _ _ _ _ _ _ us hl => match us, hl with | [_, _], _ => rfl⟩,
    f__law_deed := ⟨f12, _, PySem.W.mg_of X G a12, fun_mk (st := s__law_deed) l12 c12 k12, (fun_mk (st := s__law_deed) l12 c12 k12).binds (ps := ["_law_bag_here", "_law_told", "_law_engines_here", "_law_calls"]) fun _ _ _ _ _ _ us hl => match us, hl with | [_, _, _, _], _ => rfl⟩,
    f__law_kind := ⟨f13, _, PySem.W.mg_of X G a13, fun_mk (st := s__law_kind) l13 c13 k13, (fun_mk (st := s__law_kind) l13 c13 k13).binds (ps := ["_law_bag_here"]) fun _ _ _ _ _ _ us hl => match us, hl with | [_], _ => rfl⟩,
    f__law_like := ⟨f14, _, PySem.W.mg_of X G a14, fun_mk (st := s__law_like) l14 c14 k14, (fun_mk (st := s__law_like) l14 c14 k14).binds (ps := ["_law_told", "_law_due"]) fun _ _ _ _ _ _ us hl => match us, hl with | [_, _], _ => rfl⟩,
    f__law_shown := ⟨f15, _, PySem.W.mg_of X G a15, fun_mk (st := s__law_shown) l15 c15 k15, (fun_mk (st := s__law_shown) l15 c15 k15).binds (ps := ["_law_minute"]) fun _ _ _ _ _ _ us hl => match us, hl with | [_], _ => rfl⟩,
    f__law_text := ⟨f16, _, PySem.W.mg_of X G a16, fun_mk (st := s__law_text) l16 c16 k16, (fun_mk (st := s__law_text) l16 c16 k16).binds (ps := ["_law_five_here"]) fun _ _ _ _ _ _ us hl => match us, hl with | [_], _ => rfl⟩,
    f__law_five := ⟨f17, _, PySem.W.mg_of X G a17, fun_mk (st := s__law_five) l17 c17 k17, (fun_mk (st := s__law_five) l17 c17 k17).binds (ps := ["_law_bag_here", "_law_told", "_law_engines_here"]) fun _ _ _ _ _ _ us hl => match us, hl with | [_, _, _], _ => rfl⟩,
    f__law_other := ⟨f18, _, PySem.W.mg_of X G a18, fun_mk (st := s__law_other) l18 c18 k18, (fun_mk (st := s__law_other) l18 c18 k18).binds (ps := ["_law_bag_here", "_law_five_here", "_law_what"]) fun _ _ _ _ _ _ us hl => match us, hl with | [_, _, _], _ => rfl⟩,
    f__law_is_told := ⟨f19, _, PySem.W.mg_of X G a19, fun_mk (st := s__law_is_told) l19 c19 k19, (fun_mk (st := s__law_is_told) l19 c19 k19).binds (ps := ["_law_row", "_law_five_here"]) fun _ _ _ _ _ _ us hl => match us, hl with | [_, _], _ => rfl⟩,
    f_law := ⟨f20, _, PySem.W.mg_of X G a20, fun_mk (st := s_law) l20 c20 k20, (fun_mk (st := s_law) l20 c20 k20).binds (ps := ["_law_script"]) fun _ _ _ _ _ _ us hl => match us, hl with | [_], _ => rfl⟩,
    n_abs := PySem.W.mg_none_of X G z0,
    n_all := PySem.W.mg_none_of X G z1,
    n_any := PySem.W.mg_none_of X G z2,
    n_bool := PySem.W.mg_none_of X G z3,
    n_divmod := PySem.W.mg_none_of X G z4,
    n_int := PySem.W.mg_none_of X G z5,
    n_isinstance := PySem.W.mg_none_of X G z6,
    n_len := PySem.W.mg_none_of X G z7,
    n_list := PySem.W.mg_none_of X G z8,
    n_max := PySem.W.mg_none_of X G z9,
    n_min := PySem.W.mg_none_of X G z10,
    n_range := PySem.W.mg_none_of X G z11,
    n_repr := PySem.W.mg_none_of X G z12,
    n_str := PySem.W.mg_none_of X G z13,
    n_tuple := PySem.W.mg_none_of X G z14,
    n_zip := PySem.W.mg_none_of X G z15,
    g_DAY := ⟨gt0, PySem.W.mg_of X G lit0⟩,
    g_HOUR := ⟨gt1, PySem.W.mg_of X G lit1⟩,
    kw_Row___init___1_deed_right_at_number_written := kwbD (fund_mk (st := s_Row___init__) (dvs := [(.int 0)]) l2 c2 k2 dl2 rfl (by simp) (.cons ⟨_, rfl⟩ .nil)) (by simp) fun _ _ _ _ _ _ _ us ws its h1 h2 h3 => match us, ws, its, h1, h2, h3 with | [_], [_, _, _, _, _], [_], _, _, _ => ⟨_, rfl, rfl⟩,
    kw_Row___init___5_right := kwbD (fund_mk (st := s_Row___init__) (dvs := [(.int 0)]) l2 c2 k2 dl2 rfl (by simp) (.cons ⟨_, rfl⟩ .nil)) (by simp) fun _ _ _ _ _ _ _ us ws its h1 h2 h3 => match us, ws, its, h1, h2, h3 with | [_, _, _, _, _], [_], [_], _, _, _ => ⟨_, rfl, rfl⟩ } base⟩
  exact .of_eq rfl
end K24
namespace K24
open PySem L2 DL Tx20 Tx21
theorem name_tx {z : Str} (h : nameS z = true) : Tx_ 8 z := by
  unfold nameS lettB at h
  simp only [Bool.and_eq_true, decide_eq_true_eq, List.all_eq_true] at h
  exact ⟨fun c hc => by have := h.2 c hc; omega, h.1.2⟩
theorem kind_tx : ∀ z ∈ KIND6, Tx_ 20 z := by
  intro z hz
  have : (KIND6.all fun z => txB 20 z) = true := by decide +kernel
  exact tx_of (List.all_eq_true.mp this z hz)
theorem word_tx_ (x : HDeed) : Tx_ 20 x.word := by
  have : (([PySem.Str.ofString "call", PySem.Str.ofString "again", PySem.Str.ofString "make", PySem.Str.ofString "stop", PySem.Str.ofString "send", PySem.Str.ofString "there", PySem.Str.ofString "back", PySem.Str.ofString "home", PySem.Str.ofString "off", PySem.Str.ofString "on", PySem.Str.ofString "stand", PySem.Str.ofString "lend", PySem.Str.ofString "shut", PySem.Str.ofString "clear", PySem.Str.ofString "nothing"] : List Str).all fun z => txB 20 z) = true := by decide +kernel
  rw [List.all_eq_true] at this
  refine tx_of (this _ ?_)
  cases x <;> simp [HDeed.word]
theorem deed_words {ps ss es : List Str} {rn : Nat} {x : HDeed} (h : DeedOk ps ss es rn x) (hp : ∀ z ∈ ps, nameS z = true) (hs : ∀ z ∈ ss, nameS z = true) (he : ∀ z ∈ es, nameS z = true) (hr : rn ≤ 1000) : ∀ d ∈ D.str x.word :: x.args, WordOk d := by
  have nm : ∀ z, nameS z = true → WordOk (.str z) := fun z h => .inl ⟨z, rfl, (name_tx h).mono (by decide)⟩
  have nu : ∀ i : Int, 0 ≤ i → i ≤ 1000 → WordOk (.int i) := fun i h0 h1 => .inr ⟨i, rfl, h0, h1⟩
  have hok := h.ok
  intro d hd
  rcases List.mem_cons.mp hd with rfl | hd
  · exact .inl ⟨_, rfl, word_tx_ x⟩
  · cases x <;> simp only [HDeed.args, List.mem_cons, List.not_mem_nil, or_false] at hd <;> simp only at hok
    case call p kd =>
      rcases hd with rfl | rfl
      · exact nm _ (hp _ hok.1)
      · exact .inl ⟨_, rfl, kind_tx _ hok.2⟩
    case again n => subst hd; exact nu _ (by omega) (by omega)
    case make n m => rcases hd with rfl | rfl <;> exact nu _ (by omega) (by omega)
    case stop n => subst hd; exact nu _ (by omega) (by omega)
    case send e n =>
      rcases hd with rfl | rfl
      · exact nm _ (he _ hok.1)
      · exact nu _ (by omega) (by omega)
    case there e => subst hd; exact nm _ (he _ hok)
    case back e => subst hd; exact nm _ (he _ hok)
    case home e => subst hd; exact nm _ (he _ hok)
    case off e => subst hd; exact nm _ (he _ hok)
    case on e => subst hd; exact nm _ (he _ hok)
    case stand e s =>
      rcases hd with rfl | rfl
      · exact nm _ (he _ hok.1)
      · exact nm _ (hs _ hok.2)
    case lend e s =>
      rcases hd with rfl | rfl
      · exact nm _ (he _ hok.1)
      · exact nm _ (hs _ hok.2)
    case shut r => subst hd; exact nu _ (by omega) (by omega)
    case clear r => subst hd; exact nu _ (by omega) (by omega)
theorem lshown_ok (ds : List D) (M : Mst) (Q : DK) (Ed : DX → Mst → Prop) (h : upSp spShown ds M Q Ed) : q__law_shown (fun x _ M => Ed x M) (retE Q) (startD ["_law_minute", "_law_hour", "_law_rest"] ds) M := by
  obtain ⟨Q0, E0, ⟨m, rfl, h0, h1, k0⟩, kq, _⟩ := h
  have k := kq _ _ _ (Sub.refl _) k0
  clear kq k0
  have a := num_tx (i := m / 1440) (by omega) (by omega)
  obtain ⟨b1, b, _⟩ := two_eq (i := m % 1440 / 60) (by omega) (by omega)
  have e : m % 60 = m % 1440 % 60 := by omega
  obtain ⟨c1, c, _⟩ := two_eq (i := m % 1440 % 60) (by omega) (by omega)
  have z0 : Tx_ 1 (lit "0") := tx_of (by decide +kernel)
  have nb := num_tx (i := m % 1440 / 60) (by omega) (by omega)
  have nc := num_tx (i := m % 1440 % 60) (by omega) (by omega)
  show q__law_shown _ _ [some (.int m), none, none] M
  simp only [q__law_shown, qPar, z_neg, qSeq, qAsg, qTup, qCons, qNil, qOp, qUn, qC, qCall, qVar, qLst, newL_f, qIfS, qTB, qNext, qRet, qDrop, qFor, qCB, qAug, qSl, qPart, qNoPart, gNameD, gSub_eq, dInt_i, dInt0_i, dAdd_i, dCmpI_i, List.set_cons_zero, List.set_cons_succ, List.getElem?_cons_zero, List.getElem?_cons_succ, List.append_nil, z_l0, z_l1, z_l2, z_l3, z_l4, z_l5, z_l6, z_l7, z_l8, z_l9, z_l19, z_l24, z_l25, true_and]
  have CD : ∀ (i j : Int), 0 < j → j < 1073741824 → CDiv i j := fun i j h g => ⟨h, g⟩
  refine ⟨by decide, CD _ _ (by decide) (by decide), by decide, CD _ _ (by decide) (by decide), ?_⟩
  refine str_num (by omega) (by omega) (add_s a lit_sp (by decide) ?_)
  refine str_num (by omega) (by omega) (add_s z0 nb (by decide) ?_)
  have sl : ∀ (z : Str) R, dSl false (.str z) (some (-2)) none M R = R (.str (cutS z (some (-2)) none)) M := fun z R => rfl
  rw [sl, show cutS (Str.ofString "0" ++ numI (m % 1440 / 60)) (some (-2)) none = two (m % 1440 / 60) from b1.symm]
  refine add_s (a.app lit_sp) b (by decide) (add_s ((a.app lit_sp).app b) lit_co (by decide) ?_)
  rw [e]
  refine str_num (by omega) (by omega) (add_s z0 nc (by decide) ?_)
  rw [sl, show cutS (Str.ofString "0" ++ numI (m % 1440 % 60)) (some (-2)) none = two (m % 1440 % 60) from c1.symm]
  exact add_s (((a.app lit_sp).app b).app lit_co) c (by decide) k
def lt_R0 (sp__law_shown : DSp) : DTS := (qAsg (qOp (dAdd false) (qLst false (qCons (qCB dStr (qCons (qOp dIx (qVar 0) (qC (.int 0))) qNil)) (qCons (qCall sp__law_shown [] (qCons (qOp dIx (qVar 0) (qC (.int 1))) qNil)) (qCons (qCall sp__law_shown [] (qCons (qOp dIx (qVar 0) (qC (.int 2))) qNil)) qNil)))) (qLc false (qiAny (qOp dIx (qVar 0) (qC (.int 3)))) (gNameD 2) qYes (qCB dStr (qCons (qVar 2) qNil)) [2])) (gNameD 1))
def lt_R1 (sp__law_shown : DSp) : DTS := (qRet (qBM "str" mJoin (qC (.str (PySem.Str.ofString " "))) (qCons (qOp (dAdd false) (qVar 1) (qOp (dMul false) (qLst false (qCons (qOp (dAdd false) (qC (.str (PySem.Str.ofString "right "))) (qCB dStr (qCons (qOp dIx (qVar 0) (qC (.int 4))) qNil))) qNil)) (qCB dIntX (qCons (qOp (dCmpI fun i j => decide (j < i)) (qOp dIx (qVar 0) (qC (.int 4))) (qC (.int 0))) qNil)))) qNil)))
def lt_T1 (sp__law_shown : DSp) : DTS := lt_R1 sp__law_shown
def lt_T0 (sp__law_shown : DSp) : DTS := qSeq (lt_R0 sp__law_shown) (lt_T1 sp__law_shown)
theorem lt_cut (sp__law_shown : DSp) : q__law_text sp__law_shown = lt_T0 sp__law_shown := rfl
theorem lt_t0 (sp__law_shown : DSp) {DW : DWt} {DE : DEnds} {p : Rho} {M : Mst} : lt_T0 sp__law_shown DW DE p M = lt_R0 sp__law_shown DW { DE with nx := lt_T1 sp__law_shown DW DE } p M := rfl
theorem lit_right_ : Tx_ 6 (lit "right ") := tx_of (by decide +kernel)
/-- joined with the last two in one -/
theorem join_last : ∀ (ws : List Str) (a b : Str), Str.join sp1 (ws ++ [a, b]) = Str.join sp1 (ws ++ [a ++ sp1 ++ b])
  | [], a, b => rfl
  | [x], a, b => by
    show x ++ sp1 ++ (a ++ sp1 ++ b) = x ++ sp1 ++ (a ++ sp1 ++ b)
    rfl
  | x :: y :: ws, a, b => by
    show x ++ sp1 ++ Str.join sp1 ((y :: ws) ++ [a, b]) = x ++ sp1 ++ Str.join sp1 ((y :: ws) ++ [a ++ sp1 ++ b])
    rw [join_last (y :: ws) a b]
theorem mul1 {d : D} {M : Mst} {Q : DK} (k : Q (.lst [d]) M) : dMul false (.lst [d]) (.int 1) M Q := by
  unfold dMul
  simp only [res_lst]
  exact ⟨by decide, by decide, by simp, k⟩
theorem mul0 {d : D} {M : Mst} {Q : DK} (k : Q (.lst []) M) : dMul false (.lst [d]) (.int 0) M Q := by
  unfold dMul
  simp only [res_lst]
  exact ⟨by decide, by decide, by simp, k⟩
def spLText : DSp := fun ds M Q _ => ∃ (n w a : Int) (ws : List D) (r : Int), ds = [.tup [.int n, .int w, .int a, .tup ws, .int r]] ∧ RowTOk n w a ws r ∧ Q (.str (rowT n w a ws r)) M
theorem ltext_ok (ds : List D) (M : Mst) (Q : DK) (Ed : DX → Mst → Prop) (h : upSp spLText ds M Q Ed) : q__law_text spShown (fun x _ M => Ed x M) (retE Q) (startD ["_law_five_here", "_law_words", "_law_one"] ds) M := by
  obtain ⟨Q0, E0, ⟨n, w, a, ws, r, rfl, hO, k0⟩, kq, _⟩ := h
  have k := kq _ _ _ (Sub.refl _) k0
  clear kq k0
  have wr := hO.hl
  have rt := rowW_tx hO
  have rw_ := rowW_wt hO
  have ro := hO.hr
  rw [lt_cut, lt_t0]
  show lt_R0 _ _ _ [some (.tup [.int n, .int w, .int a, .tup ws, .int r]), none, none] M
  simp only [lt_R0, qLc, qiAny, z_ix_t0, z_ix_t1, z_ix_t2, z_ix_t3, res_tup, qSeq, qAsg, qTup, qCons, qNil, qOp, qUn, qC, qCall, qVar, qLst, newL_f, qIfS, qTB, qNext, qRet, qDrop, qFor, qCB, qAug, qSl, qPart, qNoPart, gNameD, gSub_eq, dInt_i, dInt0_i, dAdd_i, dCmpI_i, List.set_cons_zero, List.set_cons_succ, List.getElem?_cons_zero, List.getElem?_cons_succ, List.append_nil, z_l0, z_l1, z_l2, z_l3, z_l4, z_l5, z_l6, z_l7, z_l8, z_l9, z_l19, z_l24, z_l25, true_and]
  refine str_num hO.hn.1 hO.hn.2 ?_
  refine ⟨w, rfl, hO.hw.1, hO.hw.2, ?_⟩
  refine ⟨a, rfl, hO.ha.1, hO.ha.2, ?_⟩
  intro l hl
  refine compL_map hl strF (fun _ => trivial) (by omega) (fun d hd acc R hR => ?_) ?_
  · simp only [wipeD, qYes, if_true, qSeq, qAsg, qTup, qCons, qNil, qOp, qUn, qC, qCall, qVar, qLst, newL_f, qIfS, qTB, qNext, qRet, qDrop, qFor, qCB, qAug, qSl, qPart, qNoPart, gNameD, gSub_eq, dInt_i, dInt0_i, dAdd_i, dCmpI_i, List.set_cons_zero, List.set_cons_succ, List.getElem?_cons_zero, List.getElem?_cons_succ, List.append_nil, z_l0, z_l1, z_l2, z_l3, z_l4, z_l5, z_l6, z_l7, z_l8, z_l9, z_l19, z_l24, z_l25, true_and]
    exact str_word (hO.hs d hd) hR
  simp only [Bool.false_eq_true, if_false, strF_map]
  have e0 : [D.str (numI n), D.str (shownS w), D.str (shownS a)] ++ (ws.map wordS).map D.str = ([numI n, shownS w, shownS a] ++ ws.map wordS).map D.str := by simp
  unfold dAdd
  simp only [res_lst, newL_f]
  refine ⟨by simp; omega, ?_⟩
  rw [e0]
  show lt_T1 _ _ _ _ _
  simp only [lt_T1, lt_R1, qBM, qSeq, qAsg, qTup, qCons, qNil, qOp, qUn, qC, qCall, qVar, qLst, newL_f, qIfS, qTB, qNext, qRet, qDrop, qFor, qCB, qAug, qSl, qPart, qNoPart, gNameD, gSub_eq, dInt_i, dInt0_i, dAdd_i, dCmpI_i, List.set_cons_zero, List.set_cons_succ, List.getElem?_cons_zero, List.getElem?_cons_succ, List.append_nil, z_l0, z_l1, z_l2, z_l3, z_l4, z_l5, z_l6, z_l7, z_l8, z_l9, z_l19, z_l24, z_l25, true_and]
  refine ⟨rfl, ?_⟩
  have sp : ∀ (z : Str) R, dSl false (.str z) (some (-2)) none M R = R (.str (cutS z (some (-2)) none)) M := fun z R => rfl
  have fin : ∀ (zs : List Str), Txt.join sp1 zs = rowT n w a ws r → (∀ z ∈ zs, Pr z) → wt zs ≤ 100000 → mJoin (.str (PySem.Str.ofString " ")) [.lst (zs.map .str)] M fun d M1 => Q d M1 := fun zs h1 h2 h3 => join_sp1 res_lst h2 h3 (Nat.le_refl _) fun _ => by rw [h1]; exact k
  have rn := num_tx hO.hr.1 hO.hr.2
  have i4 : ∀ R, dIx (.tup [.int n, .int w, .int a, .tup ws, .int r]) (.int 4) M R = R (.int r) M := fun R => ix_t rfl
  rw [i4]
  refine str_num hO.hr.1 hO.hr.2 ?_
  refine add_s lit_right_ rn (by decide) ?_
  have base : ∀ z ∈ [numI n, shownS w, shownS a] ++ ws.map wordS, Tx_ 20 z := fun z hz => by
    by_cases c : r = 0
    · exact rt z (by unfold rowW; rw [if_pos c, List.append_nil]; exact hz)
    · exact rt z (by unfold rowW; exact List.mem_append_left _ hz)
  have bl : ([numI n, shownS w, shownS a] ++ ws.map wordS).length ≤ 103 := by simp; omega
  have bw := wt_le (m := 20) _ fun y hy => (base y hy).len
  have bw2 : wt ([numI n, shownS w, shownS a] ++ ws.map wordS) ≤ 103 * 21 := Nat.le_trans bw (Nat.mul_le_mul_right _ bl)
  simp only [i4, dCmpI_i, z_intX_b]
  by_cases c : 0 < r
  · rw [decide_eq_true c]
    simp only [if_true]
    refine mul1 ?_
    unfold dAdd
    simp only [res_lst, newL_f]
    refine ⟨by simp; omega, ?_⟩
    have e1 : ([numI n, shownS w, shownS a] ++ ws.map wordS).map D.str ++ [D.str (Str.ofString "right " ++ numI r)] = ([numI n, shownS w, shownS a] ++ ws.map wordS ++ [lit "right " ++ numI r]).map D.str := by simp
    rw [e1]
    refine fin _ ?_ (fun z hz => ?_) ?_
    · unfold rowT rowW
      rw [if_neg (by omega), TL.join_eq, TL.join_eq, join_last, show lit "right" ++ sp1 = lit "right " by decide +kernel]
    · rcases List.mem_append.mp hz with hz | hz
      · exact (base z hz).pr
      · rw [List.mem_singleton.mp hz]; exact (lit_right_.app rn).pr
    · rw [wt_app, wt_one]
      have := (lit_right_.app rn).len
      omega
  · rw [decide_eq_false c]
    simp only [Bool.false_eq_true, if_false]
    refine mul0 ?_
    unfold dAdd
    simp only [res_lst, newL_f]
    refine ⟨by simp; omega, ?_⟩
    rw [List.append_nil]
    refine fin _ ?_ (fun z hz => (base z hz).pr) (by omega)
    unfold rowT rowW
    rw [if_pos (by omega), List.append_nil]
def lf_R0 (sp__law_deed : DSp) (sp__law_take : DSp) : DTS := (qAsg (qCall sp__law_deed [] (qCons (qVar 0) (qCons (qVar 1) (qCons (qVar 2) (qCons (qLst false qNil) qNil))))) (gNameD 3))
def lf_R1 (sp__law_deed : DSp) (sp__law_take : DSp) : DTS := (qAsg (qCall sp__law_take [] (qCons (qVar 0) (qCons (qOp dIx (qTup (qCons (qC (.int 10000)) (qCons (qC (.int 3000)) (qCons (qC (.int 1440)) qNil)))) (qCall sp__law_take [] (qCons (qVar 0) (qCons (qC (.int 3)) qNil)))) qNil))) (gNameD 4))
def lf_R2 (sp__law_deed : DSp) (sp__law_take : DSp) : DTS := (qAsg (qCall sp__law_take [] (qCons (qVar 0) (qCons (qOp (dAdd false) (qVar 4) (qC (.int 1))) qNil))) (gNameD 5))
def lf_R3 (sp__law_deed : DSp) (sp__law_take : DSp) : DTS := (qAsg (qOp (dAdd false) (qC (.int 1)) (qCall sp__law_take [] (qCons (qVar 0) (qCons (qC (.int 200)) qNil)))) (gNameD 6))
def lf_R4 (sp__law_deed : DSp) (sp__law_take : DSp) : DTS := (qRet (qTup (qCons (qVar 6) (qCons (qVar 4) (qCons (qVar 5) (qCons (qVar 3) (qCons (qOp (dMul false) (qCall sp__law_take [] (qCons (qVar 0) (qCons (qVar 6) qNil))) (qCall sp__law_take [] (qCons (qVar 0) (qCons (qC (.int 2)) qNil)))) qNil)))))))
def lf_T4 (sp__law_deed : DSp) (sp__law_take : DSp) : DTS := lf_R4 sp__law_deed sp__law_take
def lf_T3 (sp__law_deed : DSp) (sp__law_take : DSp) : DTS := qSeq (lf_R3 sp__law_deed sp__law_take) (lf_T4 sp__law_deed sp__law_take)
def lf_T2 (sp__law_deed : DSp) (sp__law_take : DSp) : DTS := qSeq (lf_R2 sp__law_deed sp__law_take) (lf_T3 sp__law_deed sp__law_take)
def lf_T1 (sp__law_deed : DSp) (sp__law_take : DSp) : DTS := qSeq (lf_R1 sp__law_deed sp__law_take) (lf_T2 sp__law_deed sp__law_take)
def lf_T0 (sp__law_deed : DSp) (sp__law_take : DSp) : DTS := qSeq (lf_R0 sp__law_deed sp__law_take) (lf_T1 sp__law_deed sp__law_take)
theorem lf_cut (sp__law_deed : DSp) (sp__law_take : DSp) : q__law_five sp__law_deed sp__law_take = lf_T0 sp__law_deed sp__law_take := rfl
theorem lf_t0 (sp__law_deed : DSp) (sp__law_take : DSp) {DW : DWt} {DE : DEnds} {p : Rho} {M : Mst} : lf_T0 sp__law_deed sp__law_take DW DE p M = lf_R0 sp__law_deed sp__law_take DW { DE with nx := lf_T1 sp__law_deed sp__law_take DW DE } p M := rfl
theorem lf_t1 (sp__law_deed : DSp) (sp__law_take : DSp) {DW : DWt} {DE : DEnds} {p : Rho} {M : Mst} : lf_T1 sp__law_deed sp__law_take DW DE p M = lf_R1 sp__law_deed sp__law_take DW { DE with nx := lf_T2 sp__law_deed sp__law_take DW DE } p M := rfl
theorem lf_t2 (sp__law_deed : DSp) (sp__law_take : DSp) {DW : DWt} {DE : DEnds} {p : Rho} {M : Mst} : lf_T2 sp__law_deed sp__law_take DW DE p M = lf_R2 sp__law_deed sp__law_take DW { DE with nx := lf_T3 sp__law_deed sp__law_take DW DE } p M := rfl
theorem lf_t3 (sp__law_deed : DSp) (sp__law_take : DSp) {DW : DWt} {DE : DEnds} {p : Rho} {M : Mst} : lf_T3 sp__law_deed sp__law_take DW DE p M = lf_R3 sp__law_deed sp__law_take DW { DE with nx := lf_T4 sp__law_deed sp__law_take DW DE } p M := rfl
def lo_R0 (sp__law_take : DSp) : DTS := (qAsg (qCall sp__law_take [] (qCons (qVar 0) (qCons (qC (.int 5)) qNil))) (gNameD 3))
def lo_R1 (sp__law_take : DSp) : DTS := (qAsg (qVar 2) (gNameD 4))
def lo_R2 (sp__law_take : DSp) : DTS := (qIfS (qTB (qOp (dEq true) (qVar 3) (qC (.int 3)))) (qAsg (qIf (qTB (qOp (dCmpI fun i j => decide (i < j)) (qOp dIx (qVar 1) (qVar 3)) (qC (.int 200)))) (qOp (dAdd false) (qOp dIx (qVar 1) (qVar 3)) (qC (.int 1))) (qOp (dInt0 fun i j => i - j) (qOp (dInt0 fun i j => i - j) (qOp dIx (qVar 1) (qVar 3)) (qC (.int 1))) (qCall sp__law_take [] (qCons (qVar 0) (qCons (qC (.int 9)) qNil))))) (gNameD 4)) qNext)
def lo_R3 (sp__law_take : DSp) : DTS := (qRet (qOp (dAdd false) (qOp (dAdd false) (qSl false (qVar 1) qNoPart (qPart (qVar 3))) (qTup (qCons (qVar 4) qNil))) (qSl false (qVar 1) (qPart (qOp (dAdd false) (qVar 3) (qC (.int 1)))) qNoPart)))
def lo_T3 (sp__law_take : DSp) : DTS := lo_R3 sp__law_take
def lo_T2 (sp__law_take : DSp) : DTS := qSeq (lo_R2 sp__law_take) (lo_T3 sp__law_take)
def lo_T1 (sp__law_take : DSp) : DTS := qSeq (lo_R1 sp__law_take) (lo_T2 sp__law_take)
def lo_T0 (sp__law_take : DSp) : DTS := qSeq (lo_R0 sp__law_take) (lo_T1 sp__law_take)
theorem lo_cut (sp__law_take : DSp) : q__law_other sp__law_take = lo_T0 sp__law_take := rfl
theorem lo_t0 (sp__law_take : DSp) {DW : DWt} {DE : DEnds} {p : Rho} {M : Mst} : lo_T0 sp__law_take DW DE p M = lo_R0 sp__law_take DW { DE with nx := lo_T1 sp__law_take DW DE } p M := rfl
theorem lo_t1 (sp__law_take : DSp) {DW : DWt} {DE : DEnds} {p : Rho} {M : Mst} : lo_T1 sp__law_take DW DE p M = lo_R1 sp__law_take DW { DE with nx := lo_T2 sp__law_take DW DE } p M := rfl
theorem lo_t2 (sp__law_take : DSp) {DW : DWt} {DE : DEnds} {p : Rho} {M : Mst} : lo_T2 sp__law_take DW DE p M = lo_R2 sp__law_take DW { DE with nx := lo_T3 sp__law_take DW DE } p M := rfl
def it_R0 (c_Row : Addr) (sp_Row___eq__ : DSp) (sp_Row___repr__ : DSp) (sp_Row___str__ : DSp) (sp__law_like : DSp) (sp__law_text : DSp) : DTS := (qAsg (qTup (qCons (qFld c_Row F_Row 0 (qVar 0)) (qCons (qFld c_Row F_Row 1 (qVar 0)) (qCons (qFld c_Row F_Row 2 (qVar 0)) (qCons (qFld c_Row F_Row 3 (qVar 0)) (qCons (qFld c_Row F_Row 4 (qVar 0)) qNil)))))) (gNameD 2))
def it_R1 (c_Row : Addr) (sp_Row___eq__ : DSp) (sp_Row___repr__ : DSp) (sp_Row___str__ : DSp) (sp__law_like : DSp) (sp__law_text : DSp) : DTS := (qIfS (qOr (qNot (qTB (qCall sp__law_like [] (qCons (qVar 2) (qCons (qVar 1) qNil))))) (qTB (qOp (dEq true) (qCB (dOwn1 c_Row fitStrD sp_Row___str__) (qCons (qVar 0) qNil)) (qCall sp__law_text [] (qCons (qVar 1) qNil))))) (qRet (qC (.bl false))) qNext)
def it_R2 (c_Row : Addr) (sp_Row___eq__ : DSp) (sp_Row___repr__ : DSp) (sp_Row___str__ : DSp) (sp__law_like : DSp) (sp__law_text : DSp) : DTS := (qIfS (qTB (qOp (dEq true) (qCB (dOwn1 c_Row fitStrD sp_Row___repr__) (qCons (qVar 0) qNil)) (qOp (dAdd false) (qOp (dAdd false) (qC (.str (PySem.Str.ofString "Row("))) (qCB dStr (qCons (qOp dIx (qVar 1) (qC (.int 0))) qNil))) (qC (.str (PySem.Str.ofString ")")))))) (qRet (qC (.bl false))) qNext)
def it_R3 (c_Row : Addr) (sp_Row___eq__ : DSp) (sp_Row___repr__ : DSp) (sp_Row___str__ : DSp) (sp__law_like : DSp) (sp__law_text : DSp) : DTS := (qRet (qNotV (qCB dAny (qCons (qLc false (qiAny (qTup (qCons (qC .non) (qCons (qVar 1) (qCons (qCB (dOwn1 c_Row fitStrD sp_Row___str__) (qCons (qVar 0) qNil)) (qCons (qOp dIx (qVar 1) (qC (.int 0))) (qCons (qLst false (qCons (qVar 0) qNil)) qNil))))))) (gNameD 3) qYes (qOp (dOwnX false c_Row sp_Row___eq__) (qVar 0) (qVar 3)) [3]) qNil))))
def it_T3 (c_Row : Addr) (sp_Row___eq__ : DSp) (sp_Row___repr__ : DSp) (sp_Row___str__ : DSp) (sp__law_like : DSp) (sp__law_text : DSp) : DTS := it_R3 c_Row sp_Row___eq__ sp_Row___repr__ sp_Row___str__ sp__law_like sp__law_text
def it_T2 (c_Row : Addr) (sp_Row___eq__ : DSp) (sp_Row___repr__ : DSp) (sp_Row___str__ : DSp) (sp__law_like : DSp) (sp__law_text : DSp) : DTS := qSeq (it_R2 c_Row sp_Row___eq__ sp_Row___repr__ sp_Row___str__ sp__law_like sp__law_text) (it_T3 c_Row sp_Row___eq__ sp_Row___repr__ sp_Row___str__ sp__law_like sp__law_text)
def it_T1 (c_Row : Addr) (sp_Row___eq__ : DSp) (sp_Row___repr__ : DSp) (sp_Row___str__ : DSp) (sp__law_like : DSp) (sp__law_text : DSp) : DTS := qSeq (it_R1 c_Row sp_Row___eq__ sp_Row___repr__ sp_Row___str__ sp__law_like sp__law_text) (it_T2 c_Row sp_Row___eq__ sp_Row___repr__ sp_Row___str__ sp__law_like sp__law_text)
def it_T0 (c_Row : Addr) (sp_Row___eq__ : DSp) (sp_Row___repr__ : DSp) (sp_Row___str__ : DSp) (sp__law_like : DSp) (sp__law_text : DSp) : DTS := qSeq (it_R0 c_Row sp_Row___eq__ sp_Row___repr__ sp_Row___str__ sp__law_like sp__law_text) (it_T1 c_Row sp_Row___eq__ sp_Row___repr__ sp_Row___str__ sp__law_like sp__law_text)
theorem it_cut (c_Row : Addr) (sp_Row___eq__ : DSp) (sp_Row___repr__ : DSp) (sp_Row___str__ : DSp) (sp__law_like : DSp) (sp__law_text : DSp) : q__law_is_told c_Row sp_Row___eq__ sp_Row___repr__ sp_Row___str__ sp__law_like sp__law_text = it_T0 c_Row sp_Row___eq__ sp_Row___repr__ sp_Row___str__ sp__law_like sp__law_text := rfl
theorem it_t0 (c_Row : Addr) (sp_Row___eq__ : DSp) (sp_Row___repr__ : DSp) (sp_Row___str__ : DSp) (sp__law_like : DSp) (sp__law_text : DSp) {DW : DWt} {DE : DEnds} {p : Rho} {M : Mst} : it_T0 c_Row sp_Row___eq__ sp_Row___repr__ sp_Row___str__ sp__law_like sp__law_text DW DE p M = it_R0 c_Row sp_Row___eq__ sp_Row___repr__ sp_Row___str__ sp__law_like sp__law_text DW { DE with nx := it_T1 c_Row sp_Row___eq__ sp_Row___repr__ sp_Row___str__ sp__law_like sp__law_text DW DE } p M := rfl
theorem it_t1 (c_Row : Addr) (sp_Row___eq__ : DSp) (sp_Row___repr__ : DSp) (sp_Row___str__ : DSp) (sp__law_like : DSp) (sp__law_text : DSp) {DW : DWt} {DE : DEnds} {p : Rho} {M : Mst} : it_T1 c_Row sp_Row___eq__ sp_Row___repr__ sp_Row___str__ sp__law_like sp__law_text DW DE p M = it_R1 c_Row sp_Row___eq__ sp_Row___repr__ sp_Row___str__ sp__law_like sp__law_text DW { DE with nx := it_T2 c_Row sp_Row___eq__ sp_Row___repr__ sp_Row___str__ sp__law_like sp__law_text DW DE } p M := rfl
theorem it_t2 (c_Row : Addr) (sp_Row___eq__ : DSp) (sp_Row___repr__ : DSp) (sp_Row___str__ : DSp) (sp__law_like : DSp) (sp__law_text : DSp) {DW : DWt} {DE : DEnds} {p : Rho} {M : Mst} : it_T2 c_Row sp_Row___eq__ sp_Row___repr__ sp_Row___str__ sp__law_like sp__law_text DW DE p M = it_R2 c_Row sp_Row___eq__ sp_Row___repr__ sp_Row___str__ sp__law_like sp__law_text DW { DE with nx := it_T3 c_Row sp_Row___eq__ sp_Row___repr__ sp_Row___str__ sp__law_like sp__law_text DW DE } p M := rfl
def fvD (x : HDeed) (n w a r : Int) : D := .tup [.int n, .int w, .int a, x.d, .int r]
structure FvOk (n w a r : Int) : Prop where
  n : 0 ≤ n ∧ n ≤ 900
  w : 0 ≤ w ∧ w ≤ 20000
  a : 0 ≤ a ∧ a ≤ 20000
  r : 0 ≤ r ∧ r ≤ 900
def spLFive : DSp := fun ds M Q _ => ∃ (b : Addr) (ps : List Pc_) (rs : List Rd_) (ss : List Str) (es : List Eng), ds = [.ref b, grT ps rs ss, .tup (es.map egD)] ∧ M b = some .bag ∧ GrdOk ps rs ss ∧ EngsOk ss es ∧
  ∀ x n w a r, DeedOk (ps.map (·.1)) ss (es.map (·.1)) rs.length x → FvOk n w a r → Q (fvD x n w a r) M
theorem deed_call {b : Addr} {ps : List Pc_} {rs : List Rd_} {ss : List Str} {es : List Eng} {M : Mst} {R : DK} {E : DX → Mst → Prop} (hb : M b = some .bag) (g : GrdOk ps rs ss) (e : EngsOk ss es) (k : ∀ x, DeedOk (ps.map (·.1)) ss (es.map (·.1)) rs.length x → R x.d M) : spHDeed [.ref b, grT ps rs ss, .tup (es.map egD), .lst []] M R E :=
  ⟨b, ps, rs, ss, es, [], rfl, hb, fun z => by have := g.pn; rw [z] at this; simp at this, g.sn.1, e.ne, by have := g.pn; omega, by have := g.rn; omega, by have := g.sn; omega, by have := e.le; omega, Nat.zero_le _, (fun _ h => nomatch h), k⟩
theorem lfive_ok (ds : List D) (M : Mst) (Q : DK) (Ed : DX → Mst → Prop) (h : upSp spLFive ds M Q Ed) : q__law_five spHDeed spTake (fun x _ M => Ed x M) (retE Q) (startD ["_law_bag_here", "_law_told", "_law_engines_here", "_law_what", "_law_late", "_law_early", "_law_place"] ds) M := by
  obtain ⟨Q0, E0, ⟨b, ps, rs, ss, es, rfl, hb, hg, he, k0⟩, kq, _⟩ := h
  have k : ∀ x n w a r, DeedOk (ps.map (·.1)) ss (es.map (·.1)) rs.length x → FvOk n w a r → Q (fvD x n w a r) M := fun x n w a r h1 h2 => kq _ _ _ (Sub.refl _) (k0 x n w a r h1 h2)
  clear kq k0
  rw [lf_cut, lf_t0]
  show lf_R0 _ _ _ _ [some (.ref b), some (grT ps rs ss), some (.tup (es.map egD)), none, none, none, none] M
  simp only [lf_R0, newL_f, qSeq, qAsg, qTup, qCons, qNil, qOp, qUn, qC, qCall, qVar, qLst, newL_f, qIfS, qTB, qNext, qRet, qDrop, qFor, qCB, qAug, qSl, qPart, qNoPart, gNameD, gSub_eq, dInt_i, dInt0_i, dAdd_i, dCmpI_i, List.set_cons_zero, List.set_cons_succ, List.getElem?_cons_zero, List.getElem?_cons_succ, List.append_nil, z_l0, z_l1, z_l2, z_l3, z_l4, z_l5, z_l6, z_l7, z_l8, z_l9, z_l19, z_l24, z_l25, true_and]
  refine deed_call hb hg he fun x hx => ?_
  show lf_T1 _ _ _ _ _ M
  rw [lf_t1]
  show lf_R1 _ _ _ _ _ M
  simp only [lf_R1, qSeq, qAsg, qTup, qCons, qNil, qOp, qUn, qC, qCall, qVar, qLst, newL_f, qIfS, qTB, qNext, qRet, qDrop, qFor, qCB, qAug, qSl, qPart, qNoPart, gNameD, gSub_eq, dInt_i, dInt0_i, dAdd_i, dCmpI_i, List.set_cons_zero, List.set_cons_succ, List.getElem?_cons_zero, List.getElem?_cons_succ, List.append_nil, z_l0, z_l1, z_l2, z_l3, z_l4, z_l5, z_l6, z_l7, z_l8, z_l9, z_l19, z_l24, z_l25, true_and]
  refine take_call hb (by decide) (by decide) fun r1 a1 b1 => pick_t a1 b1 fun d hd => ?_
  obtain ⟨m, m0, m1, rfl⟩ : ∃ m : Int, 1 ≤ m ∧ m ≤ 10000 ∧ d = .int m := by
    simp only [List.mem_cons, List.not_mem_nil, or_false] at hd
    rcases hd with rfl | rfl | rfl <;> exact ⟨_, by decide, by decide, rfl⟩
  refine take_call hb (by omega) (by omega) fun w w0 w1 => ?_
  show lf_T2 _ _ _ _ _ M
  rw [lf_t2]
  show lf_R2 _ _ _ _ _ M
  simp only [lf_R2, qSeq, qAsg, qTup, qCons, qNil, qOp, qUn, qC, qCall, qVar, qLst, newL_f, qIfS, qTB, qNext, qRet, qDrop, qFor, qCB, qAug, qSl, qPart, qNoPart, gNameD, gSub_eq, dInt_i, dInt0_i, dAdd_i, dCmpI_i, List.set_cons_zero, List.set_cons_succ, List.getElem?_cons_zero, List.getElem?_cons_succ, List.append_nil, z_l0, z_l1, z_l2, z_l3, z_l4, z_l5, z_l6, z_l7, z_l8, z_l9, z_l19, z_l24, z_l25, true_and]
  refine take_call hb (by omega) (by omega) fun a a0 a1 => ?_
  show lf_T3 _ _ _ _ _ M
  rw [lf_t3]
  show lf_R3 _ _ _ _ _ M
  simp only [lf_R3, qSeq, qAsg, qTup, qCons, qNil, qOp, qUn, qC, qCall, qVar, qLst, newL_f, qIfS, qTB, qNext, qRet, qDrop, qFor, qCB, qAug, qSl, qPart, qNoPart, gNameD, gSub_eq, dInt_i, dInt0_i, dAdd_i, dCmpI_i, List.set_cons_zero, List.set_cons_succ, List.getElem?_cons_zero, List.getElem?_cons_succ, List.append_nil, z_l0, z_l1, z_l2, z_l3, z_l4, z_l5, z_l6, z_l7, z_l8, z_l9, z_l19, z_l24, z_l25, true_and]
  refine take_call hb (by decide) (by decide) fun n n0 n1 => ?_
  simp only [dAdd_i, lf_T4, lf_R4, qSeq, qAsg, qTup, qCons, qNil, qOp, qUn, qC, qCall, qVar, qLst, newL_f, qIfS, qTB, qNext, qRet, qDrop, qFor, qCB, qAug, qSl, qPart, qNoPart, gNameD, gSub_eq, dInt_i, dInt0_i, dAdd_i, dCmpI_i, List.set_cons_zero, List.set_cons_succ, List.getElem?_cons_zero, List.getElem?_cons_succ, List.append_nil, z_l0, z_l1, z_l2, z_l3, z_l4, z_l5, z_l6, z_l7, z_l8, z_l9, z_l19, z_l24, z_l25, true_and]
  refine take_call hb (by omega) (by omega) fun r r0 r1 => ?_
  refine take_call hb (by decide) (by decide) fun q q0 q1 => ?_
  simp only [dMul, res_int]
  refine ⟨.inl ⟨by omega, by omega⟩, ?_⟩
  have hq : q = 0 ∨ q = 1 := by omega
  exact k x _ _ _ _ hx ⟨by omega, by omega, by omega, by rcases hq with rfl | rfl <;> omega⟩
def spLOther : DSp := fun ds M Q _ => ∃ (b : Addr) (x y : HDeed) (n w a r : Int), ds = [.ref b, fvD x n w a r, y.d] ∧ M b = some .bag ∧ FvOk n w a r ∧ ∀ z n' w' a' r', (z = x ∨ z = y) → (0 ≤ n' ∧ n' ≤ 1000) → (0 ≤ w' ∧ w' ≤ 30000) → (0 ≤ a' ∧ a' ≤ 30000) → (0 ≤ r' ∧ r' ≤ 1000) → Q (fvD z n' w' a' r') M
theorem lother_ok (ds : List D) (M : Mst) (Q : DK) (Ed : DX → Mst → Prop) (h : upSp spLOther ds M Q Ed) : q__law_other spTake (fun x _ M => Ed x M) (retE Q) (startD ["_law_bag_here", "_law_five_here", "_law_what", "_law_k", "_law_value"] ds) M := by
  obtain ⟨Q0, E0, ⟨b, x, y, n, w, a, r, rfl, hb, ho, k0⟩, kq, _⟩ := h
  have k : ∀ z n' w' a' r', (z = x ∨ z = y) → (0 ≤ n' ∧ n' ≤ 1000) → (0 ≤ w' ∧ w' ≤ 30000) → (0 ≤ a' ∧ a' ≤ 30000) → (0 ≤ r' ∧ r' ≤ 1000) → Q (fvD z n' w' a' r') M := fun z n' w' a' r' h1 h2 h3 h4 h5 => kq _ _ _ (Sub.refl _) (k0 z n' w' a' r' h1 h2 h3 h4 h5)
  clear kq k0
  obtain ⟨hn, hw, ha, hr⟩ := ho
  rw [lo_cut, lo_t0]
  show lo_R0 _ _ _ [some (.ref b), some (fvD x n w a r), some y.d, none, none] M
  simp only [lo_R0, qSeq, qAsg, qTup, qCons, qNil, qOp, qUn, qC, qCall, qVar, qLst, newL_f, qIfS, qTB, qNext, qRet, qDrop, qFor, qCB, qAug, qSl, qPart, qNoPart, gNameD, gSub_eq, dInt_i, dInt0_i, dAdd_i, dCmpI_i, List.set_cons_zero, List.set_cons_succ, List.getElem?_cons_zero, List.getElem?_cons_succ, List.append_nil, z_l0, z_l1, z_l2, z_l3, z_l4, z_l5, z_l6, z_l7, z_l8, z_l9, z_l19, z_l24, z_l25, true_and]
  refine take_call hb (by decide) (by decide) fun i i0 i1 => ?_
  show lo_T1 _ _ _ _ M
  rw [lo_t1]
  show lo_R1 _ _ _ _ M
  simp only [lo_R1, qSeq, qAsg, qTup, qCons, qNil, qOp, qUn, qC, qCall, qVar, qLst, newL_f, qIfS, qTB, qNext, qRet, qDrop, qFor, qCB, qAug, qSl, qPart, qNoPart, gNameD, gSub_eq, dInt_i, dInt0_i, dAdd_i, dCmpI_i, List.set_cons_zero, List.set_cons_succ, List.getElem?_cons_zero, List.getElem?_cons_succ, List.append_nil, z_l0, z_l1, z_l2, z_l3, z_l4, z_l5, z_l6, z_l7, z_l8, z_l9, z_l19, z_l24, z_l25, true_and]
  show lo_T2 _ _ _ _ M
  rw [lo_t2]
  show lo_R2 _ _ _ _ M
  have pick : ∀ (i : Int) (v : Int), 0 ≤ v → v ≤ 20000 → (∀ u : Int, 0 ≤ u → (v ≤ 900 → u ≤ 1000) → u ≤ 30000 → lo_T3 spTake (fun x _ M => Ed x M) (retE Q) [some (.ref b), some (fvD x n w a r), some y.d, some (.int i), some (.int u)] M) → dIx (fvD x n w a r) (.int i) M = (fun R => R (.int v) M) → (decide (i = 3) = false) →
      lo_R2 spTake (fun x _ M => Ed x M) { nx := lo_T3 spTake (fun x _ M => Ed x M) (retE Q), rt := Q } [some (.ref b), some (fvD x n w a r), some y.d, some (.int i), some y.d] M := fun i v v0 v1 hk hi h3 => by
    simp only [lo_R2, z_ne_int, h3, Bool.not_false, if_true, qIf, hi, qSeq, qAsg, qTup, qCons, qNil, qOp, qUn, qC, qCall, qVar, qLst, newL_f, qIfS, qTB, qNext, qRet, qDrop, qFor, qCB, qAug, qSl, qPart, qNoPart, gNameD, gSub_eq, dInt_i, dInt0_i, dAdd_i, dCmpI_i, List.set_cons_zero, List.set_cons_succ, List.getElem?_cons_zero, List.getElem?_cons_succ, List.append_nil, z_l0, z_l1, z_l2, z_l3, z_l4, z_l5, z_l6, z_l7, z_l8, z_l9, z_l19, z_l24, z_l25, true_and]
    by_cases c : v < 200
    · rw [decide_eq_true c]
      simp only [if_true, hi, dAdd_i]
      exact hk _ (by omega) (fun _ => by omega) (by omega)
    · rw [decide_eq_false c]
      simp only [Bool.false_eq_true, if_false, hi, dInt0_i]
      refine take_call hb (by decide) (by decide) fun q q0 q1 => ?_
      exact hk (v - 1 - q) (by omega) (fun _ => by omega) (by omega)
  have hi : i = 0 ∨ i = 1 ∨ i = 2 ∨ i = 3 ∨ i = 4 := by omega
  rcases hi with rfl | rfl | rfl | rfl | rfl
  · refine pick 0 n hn.1 (by omega) (fun u u0 u1 u2 => ?_) (by funext R; exact ix_t rfl) rfl
    simp only [lo_T3, lo_R3, fvD, qSeq, qAsg, qTup, qCons, qNil, qOp, qUn, qC, qCall, qVar, qLst, newL_f, qIfS, qTB, qNext, qRet, qDrop, qFor, qCB, qAug, qSl, qPart, qNoPart, gNameD, gSub_eq, dInt_i, dInt0_i, dAdd_i, dCmpI_i, List.set_cons_zero, List.set_cons_succ, List.getElem?_cons_zero, List.getElem?_cons_succ, List.append_nil, z_l0, z_l1, z_l2, z_l3, z_l4, z_l5, z_l6, z_l7, z_l8, z_l9, z_l19, z_l24, z_l25, true_and]
    refine ⟨Nat.le_of_ble_eq_true rfl, Nat.le_of_ble_eq_true rfl, ?_⟩
    exact k x u w a r (.inl rfl) ⟨u0, u1 hn.2⟩ (by omega) (by omega) (by omega)
  · refine pick 1 w hw.1 hw.2 (fun u u0 u1 u2 => ?_) (by funext R; exact ix_t rfl) rfl
    simp only [lo_T3, lo_R3, fvD, qSeq, qAsg, qTup, qCons, qNil, qOp, qUn, qC, qCall, qVar, qLst, newL_f, qIfS, qTB, qNext, qRet, qDrop, qFor, qCB, qAug, qSl, qPart, qNoPart, gNameD, gSub_eq, dInt_i, dInt0_i, dAdd_i, dCmpI_i, List.set_cons_zero, List.set_cons_succ, List.getElem?_cons_zero, List.getElem?_cons_succ, List.append_nil, z_l0, z_l1, z_l2, z_l3, z_l4, z_l5, z_l6, z_l7, z_l8, z_l9, z_l19, z_l24, z_l25, true_and]
    refine ⟨Nat.le_of_ble_eq_true rfl, Nat.le_of_ble_eq_true rfl, ?_⟩
    exact k x n u a r (.inl rfl) (by omega) ⟨u0, u2⟩ (by omega) (by omega)
  · refine pick 2 a ha.1 ha.2 (fun u u0 u1 u2 => ?_) (by funext R; exact ix_t rfl) rfl
    simp only [lo_T3, lo_R3, fvD, qSeq, qAsg, qTup, qCons, qNil, qOp, qUn, qC, qCall, qVar, qLst, newL_f, qIfS, qTB, qNext, qRet, qDrop, qFor, qCB, qAug, qSl, qPart, qNoPart, gNameD, gSub_eq, dInt_i, dInt0_i, dAdd_i, dCmpI_i, List.set_cons_zero, List.set_cons_succ, List.getElem?_cons_zero, List.getElem?_cons_succ, List.append_nil, z_l0, z_l1, z_l2, z_l3, z_l4, z_l5, z_l6, z_l7, z_l8, z_l9, z_l19, z_l24, z_l25, true_and]
    refine ⟨Nat.le_of_ble_eq_true rfl, Nat.le_of_ble_eq_true rfl, ?_⟩
    exact k x n w u r (.inl rfl) (by omega) (by omega) ⟨u0, u2⟩ (by omega)
  · simp only [lo_R2, z_ne_int, decide_true, Bool.not_true, Bool.false_eq_true, if_false, qSeq, qAsg, qTup, qCons, qNil, qOp, qUn, qC, qCall, qVar, qLst, newL_f, qIfS, qTB, qNext, qRet, qDrop, qFor, qCB, qAug, qSl, qPart, qNoPart, gNameD, gSub_eq, dInt_i, dInt0_i, dAdd_i, dCmpI_i, List.set_cons_zero, List.set_cons_succ, List.getElem?_cons_zero, List.getElem?_cons_succ, List.append_nil, z_l0, z_l1, z_l2, z_l3, z_l4, z_l5, z_l6, z_l7, z_l8, z_l9, z_l19, z_l24, z_l25, true_and]
    show lo_T3 _ _ _ _ M
    simp only [lo_T3, lo_R3, fvD, qSeq, qAsg, qTup, qCons, qNil, qOp, qUn, qC, qCall, qVar, qLst, newL_f, qIfS, qTB, qNext, qRet, qDrop, qFor, qCB, qAug, qSl, qPart, qNoPart, gNameD, gSub_eq, dInt_i, dInt0_i, dAdd_i, dCmpI_i, List.set_cons_zero, List.set_cons_succ, List.getElem?_cons_zero, List.getElem?_cons_succ, List.append_nil, z_l0, z_l1, z_l2, z_l3, z_l4, z_l5, z_l6, z_l7, z_l8, z_l9, z_l19, z_l24, z_l25, true_and]
    refine ⟨Nat.le_of_ble_eq_true rfl, Nat.le_of_ble_eq_true rfl, ?_⟩
    exact k y n w a r (.inr rfl) (by omega) (by omega) (by omega) (by omega)
  · refine pick 4 r hr.1 (by omega) (fun u u0 u1 u2 => ?_) (by funext R; exact ix_t rfl) rfl
    simp only [lo_T3, lo_R3, fvD, qSeq, qAsg, qTup, qCons, qNil, qOp, qUn, qC, qCall, qVar, qLst, newL_f, qIfS, qTB, qNext, qRet, qDrop, qFor, qCB, qAug, qSl, qPart, qNoPart, gNameD, gSub_eq, dInt_i, dInt0_i, dAdd_i, dCmpI_i, List.set_cons_zero, List.set_cons_succ, List.getElem?_cons_zero, List.getElem?_cons_succ, List.append_nil, z_l0, z_l1, z_l2, z_l3, z_l4, z_l5, z_l6, z_l7, z_l8, z_l9, z_l19, z_l24, z_l25, true_and]
    refine ⟨Nat.le_of_ble_eq_true rfl, Nat.le_of_ble_eq_true rfl, ?_⟩
    exact k x n w a u (.inl rfl) (by omega) (by omega) (by omega) ⟨u0, u1 hr.2⟩
structure ToldOk (x : HDeed) (n w a r : Int) : Prop where
  n : 0 ≤ n ∧ n ≤ 1000
  w : 0 ≤ w ∧ w ≤ 30000
  a : 0 ≤ a ∧ a ≤ 30000
  r : 0 ≤ r ∧ r ≤ 1000
  ws : ∀ d ∈ D.str x.word :: x.args, WordOk d
def fvL (x : HDeed) (n w a r : Int) : List D := [.int n, .int w, .int a, x.d, .int r]
def rwO (c : Addr) (x : HDeed) (n w a r : Int) : D := .ins c FRow (fvL x n w a r)
theorem args_len (x : HDeed) : x.args.length ≤ 2 := by cases x <;> simp [HDeed.args]
theorem args_prm (x : HDeed) : prmL x.args = true := by cases x <;> rfl
theorem fvL_prm (x : HDeed) (n w a r : Int) : prmL (fvL x n w a r) = true := by
  simp [fvL, HDeed.d, prm, prmL, args_prm]
theorem args_flat (x : HDeed) : ∀ d ∈ x.args, dep d ≤ 0 := by
  intro d hd
  cases x <;> simp only [HDeed.args, List.mem_cons, List.not_mem_nil, or_false] at hd <;> first | (rcases hd with rfl | rfl <;> exact Nat.le_refl _) | (subst hd; exact Nat.le_refl _) | exact hd.elim
theorem deed_dep (x : HDeed) : dep x.d ≤ 1 := dep_tup (n := 0) fun d hd => by
  rcases List.mem_cons.mp hd with rfl | hd
  · exact Nat.le_refl _
  · exact args_flat x d hd
theorem fv_dep (x : HDeed) (n w a r : Int) : dep (.tup (fvL x n w a r)) ≤ 2 := dep_tup (n := 1) fun d hd => by
  simp only [fvL, List.mem_cons, List.not_mem_nil, or_false] at hd
  rcases hd with rfl | rfl | rfl | rfl | rfl
  · exact Nat.zero_le _
  · exact Nat.zero_le _
  · exact Nat.zero_le _
  · exact deed_dep x
  · exact Nat.zero_le _
theorem ToldOk.text {x : HDeed} {n w a r : Int} (h : ToldOk x n w a r) : RowTOk n w a (.str x.word :: x.args) r :=
  ⟨h.n, ⟨h.w.1, by have := h.w.2; omega⟩, ⟨h.a.1, by have := h.a.2; omega⟩, h.ws, by have := args_len x; simp; omega, h.r⟩
theorem fv_like (x : HDeed) (n w a r : Int) : LikeOk 3 (.tup (fvL x n w a r)) := by
  refine ⟨prm_plain _ (fvL_prm x n w a r), ?_, Nat.lt_succ_of_le (fv_dep x n w a r), by decide⟩
  have h1 : smlL x.args = true := by cases x <;> rfl
  have h2 := args_len x
  simp [fvL, HDeed.d, sml, smlL, h1]; omega
def spTold (c : Addr) : DSp := fun ds M Q _ => ∃ (x : HDeed) (n w a r : Int), ds = [rwO c x n w a r, fvD x n w a r] ∧ ToldOk x n w a r ∧ ∀ M', DL.Sub M M' → Q (.bl true) M'
theorem told_ok (c : Addr) (ds : List D) (M : Mst) (Q : DK) (Ed : DX → Mst → Prop) (h : upSp (spTold c) ds M Q Ed) : q__law_is_told c (spRowEq c) (spRowRepr c) (spRowStr c) (spLike 3) spLText (fun x _ M => Ed x M) (retE Q) (startD ["_law_row", "_law_five_here", "_law_told", "_law_thing"] ds) M := by
  obtain ⟨Q0, E0, ⟨x, n, w, a, r, rfl, ho, k0⟩, kq, _⟩ := h
  have k : ∀ M', DL.Sub M M' → Q (.bl true) M' := fun M' s => kq _ _ _ (DL.Sub.refl _) (k0 M' s)
  clear kq k0
  have ht := ho.text
  rw [it_cut, it_t0]
  show it_R0 _ _ _ _ _ _ _ _ [some (rwO c x n w a r), some (fvD x n w a r), none, none] M
  simp only [it_R0, qFld, rwO, fvL, insD_i, List.take_length, qSeq, qAsg, qTup, qCons, qNil, qOp, qUn, qC, qCall, qVar, qLst, newL_f, qIfS, qTB, qNext, qRet, qDrop, qFor, qCB, qAug, qSl, qPart, qNoPart, gNameD, gSub_eq, dInt_i, dInt0_i, dAdd_i, dCmpI_i, List.set_cons_zero, List.set_cons_succ, List.getElem?_cons_zero, List.getElem?_cons_succ, List.append_nil, z_l0, z_l1, z_l2, z_l3, z_l4, z_l5, z_l6, z_l7, z_l8, z_l9, z_l19, z_l24, z_l25, true_and]
  show it_T1 _ _ _ _ _ _ _ _ [some (rwO c x n w a r), some (fvD x n w a r), some (.tup (fvL x n w a r)), none] M
  rw [it_t1]
  show it_R1 _ _ _ _ _ _ _ _ [some (rwO c x n w a r), some (fvD x n w a r), some (.tup (fvL x n w a r)), none] M
  simp only [it_R1, qOr, qNot, qSeq, qAsg, qTup, qCons, qNil, qOp, qUn, qC, qCall, qVar, qLst, newL_f, qIfS, qTB, qNext, qRet, qDrop, qFor, qCB, qAug, qSl, qPart, qNoPart, gNameD, gSub_eq, dInt_i, dInt0_i, dAdd_i, dCmpI_i, List.set_cons_zero, List.set_cons_succ, List.getElem?_cons_zero, List.getElem?_cons_succ, List.append_nil, z_l0, z_l1, z_l2, z_l3, z_l4, z_l5, z_l6, z_l7, z_l8, z_l9, z_l19, z_l24, z_l25, true_and]
  refine ⟨_, rfl, fv_like x n w a r, ?_⟩
  simp only [Bool.not_true, Bool.false_eq_true, if_false]
  refine ⟨⟨_, _, rfl⟩, n, w, a, _, r, rfl, ht, fun M1 s1 => ⟨trivial, ?_⟩⟩
  refine ⟨n, w, a, _, r, rfl, ht, ?_⟩
  simp only [z_ne_str, decide_true, Bool.not_true, Bool.false_eq_true, if_false]
  show it_T2 _ _ _ _ _ _ _ _ _ M1
  rw [it_t2]
  show it_R2 _ _ _ _ _ _ _ _ _ M1
  simp only [it_R2, qSeq, qAsg, qTup, qCons, qNil, qOp, qUn, qC, qCall, qVar, qLst, newL_f, qIfS, qTB, qNext, qRet, qDrop, qFor, qCB, qAug, qSl, qPart, qNoPart, gNameD, gSub_eq, dInt_i, dInt0_i, dAdd_i, dCmpI_i, List.set_cons_zero, List.set_cons_succ, List.getElem?_cons_zero, List.getElem?_cons_succ, List.append_nil, z_l0, z_l1, z_l2, z_l3, z_l4, z_l5, z_l6, z_l7, z_l8, z_l9, z_l19, z_l24, z_l25, true_and]
  have t := num_tx ho.n.1 ho.n.2
  have t2 : Tx_ 4 (lit "Row(") := tx_of (by decide +kernel)
  have t3 : Tx_ 1 (lit ")") := tx_of (by decide +kernel)
  refine ⟨⟨_, _, rfl⟩, n, _, rfl, ho.n.1, ho.n.2, ⟨trivial, ?_⟩⟩
  have i0 : ∀ R M, dIx (fvD x n w a r) (.int 0) M R = R (.int n) M := fun R M => z_ix_t0
  simp only [i0]
  refine str_num ho.n.1 ho.n.2 (add_s t2 t (by decide) (add_s (t2.app t) t3 (by decide) ?_))
  show dEq true (.str (rowR n)) (.str (rowR n)) M1 _
  simp only [z_ne_str, decide_true, Bool.not_true, Bool.false_eq_true, if_false]
  show it_T3 _ _ _ _ _ _ _ _ _ M1
  simp only [it_T3, it_R3, qNotV, qLc, qiAny, qSeq, qAsg, qTup, qCons, qNil, qOp, qUn, qC, qCall, qVar, qLst, newL_f, qIfS, qTB, qNext, qRet, qDrop, qFor, qCB, qAug, qSl, qPart, qNoPart, gNameD, gSub_eq, dInt_i, dInt0_i, dAdd_i, dCmpI_i, List.set_cons_zero, List.set_cons_succ, List.getElem?_cons_zero, List.getElem?_cons_succ, List.append_nil, z_l0, z_l1, z_l2, z_l3, z_l4, z_l5, z_l6, z_l7, z_l8, z_l9, z_l19, z_l24, z_l25, true_and]
  refine ⟨⟨_, _, rfl⟩, n, w, a, _, r, rfl, ht, fun M2 s2 => ⟨trivial, ?_⟩⟩
  simp only [i0, newL_f, res_tup]
  intro l hl
  refine compL_map hl (fun _ => some (.bl false)) (fun _ => trivial) (Nat.le_of_ble_eq_true rfl) (fun d hd acc R hR => ?_) ?_
  · have fact : hasTy (res (DL.put M2 l (.lst acc)) d) = true ∧ nfT (tyD (res (DL.put M2 l (.lst acc)) d)) = true ∧ ∀ C ns ys, res (DL.put M2 l (.lst acc)) d ≠ .ins C ns ys := by
      simp only [List.mem_cons, List.not_mem_nil, or_false] at hd
      rcases hd with rfl | rfl | rfl | rfl | rfl <;> exact ⟨rfl, rfl, fun _ _ _ z => nomatch z⟩
    simp only [wipeD, qYes, if_true, qSeq, qAsg, qTup, qCons, qNil, qOp, qUn, qC, qCall, qVar, qLst, newL_f, qIfS, qTB, qNext, qRet, qDrop, qFor, qCB, qAug, qSl, qPart, qNoPart, gNameD, gSub_eq, dInt_i, dInt0_i, dAdd_i, dCmpI_i, List.set_cons_zero, List.set_cons_succ, List.getElem?_cons_zero, List.getElem?_cons_succ, List.append_nil, z_l0, z_l1, z_l2, z_l3, z_l4, z_l5, z_l6, z_l7, z_l8, z_l9, z_l19, z_l24, z_l25, true_and]
    refine ⟨⟨_, _, rfl⟩, fact.1, fact.2.1, fvL x n w a r, d, rfl, rfl, fvL_prm x n w a r, Nat.le_trans (fv_dep x n w a r) (by decide), .inr ⟨fact.1, fact.2.2, ⟨false, rfl, ?_⟩⟩⟩
    exact hR
  · simp only [Bool.false_eq_true, if_false, List.filterMap_cons, List.filterMap_nil]
    show dAny [.lst ([false, false, false, false, false].map D.bl)] M2 _
    unfold dAny
    simp only [res_lst]
    rw [show blsD ([false, false, false, false, false].map D.bl) = some [false, false, false, false, false] from rfl]
    exact k M2 (s1.trans s2)
def lw_R0 (c_Row : Addr) (sp_Row___eq__ : DSp) (sp_Row___init__ : DSp) (sp_Row___str__ : DSp) (sp__law_bag : DSp) (sp__law_deed : DSp) (sp__law_engines : DSp) (sp__law_five : DSp) (sp__law_ground : DSp) (sp__law_is_told : DSp) (sp__law_other : DSp) : DTS := (qAsg (qCall sp__law_bag [] (qCons (qVar 0) (qCons (qC (.int 0)) qNil))) (gNameD 1))
def lw_R1 (c_Row : Addr) (sp_Row___eq__ : DSp) (sp_Row___init__ : DSp) (sp_Row___str__ : DSp) (sp__law_bag : DSp) (sp__law_deed : DSp) (sp__law_engines : DSp) (sp__law_five : DSp) (sp__law_ground : DSp) (sp__law_is_told : DSp) (sp__law_other : DSp) : DTS := (qAsg (qCall sp__law_ground [] (qCons (qVar 1) qNil)) (gNameD 2))
def lw_R2 (c_Row : Addr) (sp_Row___eq__ : DSp) (sp_Row___init__ : DSp) (sp_Row___str__ : DSp) (sp__law_bag : DSp) (sp__law_deed : DSp) (sp__law_engines : DSp) (sp__law_five : DSp) (sp__law_ground : DSp) (sp__law_is_told : DSp) (sp__law_other : DSp) : DTS := (qAsg (qCall sp__law_engines [] (qCons (qVar 1) (qCons (qOp dIx (qVar 2) (qC (.int 2))) qNil))) (gNameD 3))
def lw_R3 (c_Row : Addr) (sp_Row___eq__ : DSp) (sp_Row___init__ : DSp) (sp_Row___str__ : DSp) (sp__law_bag : DSp) (sp__law_deed : DSp) (sp__law_engines : DSp) (sp__law_five : DSp) (sp__law_ground : DSp) (sp__law_is_told : DSp) (sp__law_other : DSp) : DTS := (qAsg (qTup (qCons (qLst true qNil) (qCons (qLst true qNil) qNil))) (gTupD 2 (gConsD (gNameD 4) (gConsD (gNameD 5) gNilD))))
def lw_R4 (c_Row : Addr) (sp_Row___eq__ : DSp) (sp_Row___init__ : DSp) (sp_Row___str__ : DSp) (sp__law_bag : DSp) (sp__law_deed : DSp) (sp__law_engines : DSp) (sp__law_five : DSp) (sp__law_ground : DSp) (sp__law_is_told : DSp) (sp__law_other : DSp) : DTS := (qFor (qiRng1 (qCons (qCB dMax2 (qCons (qC (.int 3)) (qCons (qCB dMin2 (qCons (qC (.int 8)) (qCons (qOp (dInt0 fun i j => i - j) (qCB dLen (qCons (qVar 0) qNil)) (qC (.int 1))) qNil))) qNil))) qNil)) (gNameD 6) (qSeq (qAsg (qCall sp__law_bag [] (qCons (qVar 0) (qCons (qOp (dAdd false) (qC (.int 1)) (qVar 6)) qNil))) (gNameD 1)) (qSeq (qAsg (qCall sp__law_five [] (qCons (qVar 1) (qCons (qVar 2) (qCons (qVar 3) qNil)))) (gNameD 7)) (qSeq (qAsg (qFrzE (qMake c_Row sp_Row___init__ [] (qCons (qOp dIx (qVar 7) (qC (.int 0))) (qCons (qOp dIx (qVar 7) (qC (.int 1))) (qCons (qOp dIx (qVar 7) (qC (.int 2))) (qCons (qOp dIx (qVar 7) (qC (.int 3))) (qCons (qOp dIx (qVar 7) (qC (.int 4))) qNil))))))) (gNameD 8)) (qSeq (qAsg (qFrzE (qMakeKw c_Row 1 5 sp_Row___init__ [0, 4, 5, 3, 1, 2] qNil (qCons (qOp dIx (qVar 7) (qC (.int 3))) (qCons (qOp dIx (qVar 7) (qC (.int 4))) (qCons (qOp dIx (qVar 7) (qC (.int 2))) (qCons (qOp dIx (qVar 7) (qC (.int 0))) (qCons (qOp dIx (qVar 7) (qC (.int 1))) qNil))))))) (gNameD 9)) (qSeq (qAsg (qCall sp__law_other [] (qCons (qVar 1) (qCons (qVar 7) (qCons (qCall sp__law_deed [] (qCons (qVar 1) (qCons (qVar 2) (qCons (qVar 3) (qCons (qLst false qNil) qNil))))) qNil)))) (gNameD 10)) (qSeq (qAsg (qFrzE (qMakeKw c_Row 5 1 sp_Row___init__ [0, 1, 2, 3, 4, 5] (qCons (qOp dIx (qVar 10) (qC (.int 0))) (qCons (qOp dIx (qVar 10) (qC (.int 1))) (qCons (qOp dIx (qVar 10) (qC (.int 2))) (qCons (qOp dIx (qVar 10) (qC (.int 3))) qNil)))) (qCons (qOp dIx (qVar 10) (qC (.int 4))) qNil))) (gNameD 11)) (qSeq (qIfS (qOr (qNot (qTB (qCall sp__law_is_told [] (qCons (qVar 8) (qCons (qVar 7) qNil))))) (qOr (qNot (qTB (qCall sp__law_is_told [] (qCons (qVar 9) (qCons (qVar 7) qNil))))) (qNot (qTB (qCall sp__law_is_told [] (qCons (qVar 11) (qCons (qVar 10) qNil))))))) (qRet (qC (.bl false))) qNext) (qSeq (qAsg (qOp (dEq false) (qVar 7) (qVar 10)) (gNameD 12)) (qSeq (qIfS (qOr (qNot (qTB (qOp (dOwn false c_Row sp_Row___eq__) (qVar 8) (qVar 9)))) (qOr (qTB (qOp (dOwn true c_Row sp_Row___eq__) (qVar 8) (qVar 9))) (qOr (qTB (qOp (dEq true) (qOp (dOwn false c_Row sp_Row___eq__) (qVar 8) (qVar 11)) (qVar 12))) (qTB (qOp (dEq true) (qOp (dOwn false c_Row sp_Row___eq__) (qVar 11) (qVar 8)) (qVar 12)))))) (qRet (qC (.bl false))) qNext) (qSeq (qIfS (qOr (qTB (qOp (dEq true) (qOp (dInOR c_Row sp_Row___eq__) (qVar 8) (qVar 4)) (qOp (dInD false) (qVar 7) (qVar 5)))) (qTB (qOp (dEqO true c_Row sp_Row___eq__) (qOp (dAdd false) (qVar 4) (qLst false (qCons (qVar 9) qNil))) (qOp (dAdd false) (qVar 4) (qLst false (qCons (qVar 8) qNil)))))) (qRet (qC (.bl false))) qNext) (qSeq (qDrop (qBM "list" mApp (qVar 4) (qCons (qVar 8) qNil))) (qDrop (qBM "list" mApp (qVar 5) (qCons (qVar 7) qNil)))))))))))))))
def lw_R5 (c_Row : Addr) (sp_Row___eq__ : DSp) (sp_Row___init__ : DSp) (sp_Row___str__ : DSp) (sp__law_bag : DSp) (sp__law_deed : DSp) (sp__law_engines : DSp) (sp__law_five : DSp) (sp__law_ground : DSp) (sp__law_is_told : DSp) (sp__law_other : DSp) : DTS := (qAsg (qFrzE (qMake c_Row sp_Row___init__ [(.int 0)] (qCons (qC (.int 1)) (qCons (qC (.int 5)) (qCons (qC (.int 4)) (qCons (qTup (qCons (qC (.str (PySem.Str.ofString "nothing"))) qNil)) qNil)))))) (gNameD 13))
def lw_R6 (c_Row : Addr) (sp_Row___eq__ : DSp) (sp_Row___init__ : DSp) (sp_Row___str__ : DSp) (sp__law_bag : DSp) (sp__law_deed : DSp) (sp__law_engines : DSp) (sp__law_five : DSp) (sp__law_ground : DSp) (sp__law_is_told : DSp) (sp__law_other : DSp) : DTS := (qIfS (qOr (qTB (qOp (dEq true) (qFld c_Row F_Row 4 (qVar 13)) (qC (.int 0)))) (qTB (qOp (dEq true) (qCB (dOwn1 c_Row fitStrD sp_Row___str__) (qCons (qVar 13) qNil)) (qC (.str (PySem.Str.ofString "1 0 00:05 0 00:04 nothing")))))) (qRet (qC (.bl false))) qNext)
def lw_R7 (c_Row : Addr) (sp_Row___eq__ : DSp) (sp_Row___init__ : DSp) (sp_Row___str__ : DSp) (sp__law_bag : DSp) (sp__law_deed : DSp) (sp__law_engines : DSp) (sp__law_five : DSp) (sp__law_ground : DSp) (sp__law_is_told : DSp) (sp__law_other : DSp) : DTS := (qRet (qCB dAll (qCons (qLc false (qiAny (qVar 4)) (gNameD 8) qYes (qOp (dInOR c_Row sp_Row___eq__) (qVar 8) (qUn (dRev false) (qVar 4))) [8]) qNil)))
def lw_T7 (c_Row : Addr) (sp_Row___eq__ : DSp) (sp_Row___init__ : DSp) (sp_Row___str__ : DSp) (sp__law_bag : DSp) (sp__law_deed : DSp) (sp__law_engines : DSp) (sp__law_five : DSp) (sp__law_ground : DSp) (sp__law_is_told : DSp) (sp__law_other : DSp) : DTS := lw_R7 c_Row sp_Row___eq__ sp_Row___init__ sp_Row___str__ sp__law_bag sp__law_deed sp__law_engines sp__law_five sp__law_ground sp__law_is_told sp__law_other
def lw_T6 (c_Row : Addr) (sp_Row___eq__ : DSp) (sp_Row___init__ : DSp) (sp_Row___str__ : DSp) (sp__law_bag : DSp) (sp__law_deed : DSp) (sp__law_engines : DSp) (sp__law_five : DSp) (sp__law_ground : DSp) (sp__law_is_told : DSp) (sp__law_other : DSp) : DTS := qSeq (lw_R6 c_Row sp_Row___eq__ sp_Row___init__ sp_Row___str__ sp__law_bag sp__law_deed sp__law_engines sp__law_five sp__law_ground sp__law_is_told sp__law_other) (lw_T7 c_Row sp_Row___eq__ sp_Row___init__ sp_Row___str__ sp__law_bag sp__law_deed sp__law_engines sp__law_five sp__law_ground sp__law_is_told sp__law_other)
def lw_T5 (c_Row : Addr) (sp_Row___eq__ : DSp) (sp_Row___init__ : DSp) (sp_Row___str__ : DSp) (sp__law_bag : DSp) (sp__law_deed : DSp) (sp__law_engines : DSp) (sp__law_five : DSp) (sp__law_ground : DSp) (sp__law_is_told : DSp) (sp__law_other : DSp) : DTS := qSeq (lw_R5 c_Row sp_Row___eq__ sp_Row___init__ sp_Row___str__ sp__law_bag sp__law_deed sp__law_engines sp__law_five sp__law_ground sp__law_is_told sp__law_other) (lw_T6 c_Row sp_Row___eq__ sp_Row___init__ sp_Row___str__ sp__law_bag sp__law_deed sp__law_engines sp__law_five sp__law_ground sp__law_is_told sp__law_other)
def lw_T4 (c_Row : Addr) (sp_Row___eq__ : DSp) (sp_Row___init__ : DSp) (sp_Row___str__ : DSp) (sp__law_bag : DSp) (sp__law_deed : DSp) (sp__law_engines : DSp) (sp__law_five : DSp) (sp__law_ground : DSp) (sp__law_is_told : DSp) (sp__law_other : DSp) : DTS := qSeq (lw_R4 c_Row sp_Row___eq__ sp_Row___init__ sp_Row___str__ sp__law_bag sp__law_deed sp__law_engines sp__law_five sp__law_ground sp__law_is_told sp__law_other) (lw_T5 c_Row sp_Row___eq__ sp_Row___init__ sp_Row___str__ sp__law_bag sp__law_deed sp__law_engines sp__law_five sp__law_ground sp__law_is_told sp__law_other)
def lw_T3 (c_Row : Addr) (sp_Row___eq__ : DSp) (sp_Row___init__ : DSp) (sp_Row___str__ : DSp) (sp__law_bag : DSp) (sp__law_deed : DSp) (sp__law_engines : DSp) (sp__law_five : DSp) (sp__law_ground : DSp) (sp__law_is_told : DSp) (sp__law_other : DSp) : DTS := qSeq (lw_R3 c_Row sp_Row___eq__ sp_Row___init__ sp_Row___str__ sp__law_bag sp__law_deed sp__law_engines sp__law_five sp__law_ground sp__law_is_told sp__law_other) (lw_T4 c_Row sp_Row___eq__ sp_Row___init__ sp_Row___str__ sp__law_bag sp__law_deed sp__law_engines sp__law_five sp__law_ground sp__law_is_told sp__law_other)
def lw_T2 (c_Row : Addr) (sp_Row___eq__ : DSp) (sp_Row___init__ : DSp) (sp_Row___str__ : DSp) (sp__law_bag : DSp) (sp__law_deed : DSp) (sp__law_engines : DSp) (sp__law_five : DSp) (sp__law_ground : DSp) (sp__law_is_told : DSp) (sp__law_other : DSp) : DTS := qSeq (lw_R2 c_Row sp_Row___eq__ sp_Row___init__ sp_Row___str__ sp__law_bag sp__law_deed sp__law_engines sp__law_five sp__law_ground sp__law_is_told sp__law_other) (lw_T3 c_Row sp_Row___eq__ sp_Row___init__ sp_Row___str__ sp__law_bag sp__law_deed sp__law_engines sp__law_five sp__law_ground sp__law_is_told sp__law_other)
def lw_T1 (c_Row : Addr) (sp_Row___eq__ : DSp) (sp_Row___init__ : DSp) (sp_Row___str__ : DSp) (sp__law_bag : DSp) (sp__law_deed : DSp) (sp__law_engines : DSp) (sp__law_five : DSp) (sp__law_ground : DSp) (sp__law_is_told : DSp) (sp__law_other : DSp) : DTS := qSeq (lw_R1 c_Row sp_Row___eq__ sp_Row___init__ sp_Row___str__ sp__law_bag sp__law_deed sp__law_engines sp__law_five sp__law_ground sp__law_is_told sp__law_other) (lw_T2 c_Row sp_Row___eq__ sp_Row___init__ sp_Row___str__ sp__law_bag sp__law_deed sp__law_engines sp__law_five sp__law_ground sp__law_is_told sp__law_other)
def lw_T0 (c_Row : Addr) (sp_Row___eq__ : DSp) (sp_Row___init__ : DSp) (sp_Row___str__ : DSp) (sp__law_bag : DSp) (sp__law_deed : DSp) (sp__law_engines : DSp) (sp__law_five : DSp) (sp__law_ground : DSp) (sp__law_is_told : DSp) (sp__law_other : DSp) : DTS := qSeq (lw_R0 c_Row sp_Row___eq__ sp_Row___init__ sp_Row___str__ sp__law_bag sp__law_deed sp__law_engines sp__law_five sp__law_ground sp__law_is_told sp__law_other) (lw_T1 c_Row sp_Row___eq__ sp_Row___init__ sp_Row___str__ sp__law_bag sp__law_deed sp__law_engines sp__law_five sp__law_ground sp__law_is_told sp__law_other)
theorem lw_cut (c_Row : Addr) (sp_Row___eq__ : DSp) (sp_Row___init__ : DSp) (sp_Row___str__ : DSp) (sp__law_bag : DSp) (sp__law_deed : DSp) (sp__law_engines : DSp) (sp__law_five : DSp) (sp__law_ground : DSp) (sp__law_is_told : DSp) (sp__law_other : DSp) : q_law c_Row sp_Row___eq__ sp_Row___init__ sp_Row___str__ sp__law_bag sp__law_deed sp__law_engines sp__law_five sp__law_ground sp__law_is_told sp__law_other = lw_T0 c_Row sp_Row___eq__ sp_Row___init__ sp_Row___str__ sp__law_bag sp__law_deed sp__law_engines sp__law_five sp__law_ground sp__law_is_told sp__law_other := rfl
theorem lw_t0 (c_Row : Addr) (sp_Row___eq__ : DSp) (sp_Row___init__ : DSp) (sp_Row___str__ : DSp) (sp__law_bag : DSp) (sp__law_deed : DSp) (sp__law_engines : DSp) (sp__law_five : DSp) (sp__law_ground : DSp) (sp__law_is_told : DSp) (sp__law_other : DSp) {DW : DWt} {DE : DEnds} {p : Rho} {M : Mst} : lw_T0 c_Row sp_Row___eq__ sp_Row___init__ sp_Row___str__ sp__law_bag sp__law_deed sp__law_engines sp__law_five sp__law_ground sp__law_is_told sp__law_other DW DE p M = lw_R0 c_Row sp_Row___eq__ sp_Row___init__ sp_Row___str__ sp__law_bag sp__law_deed sp__law_engines sp__law_five sp__law_ground sp__law_is_told sp__law_other DW { DE with nx := lw_T1 c_Row sp_Row___eq__ sp_Row___init__ sp_Row___str__ sp__law_bag sp__law_deed sp__law_engines sp__law_five sp__law_ground sp__law_is_told sp__law_other DW DE } p M := rfl
theorem lw_t1 (c_Row : Addr) (sp_Row___eq__ : DSp) (sp_Row___init__ : DSp) (sp_Row___str__ : DSp) (sp__law_bag : DSp) (sp__law_deed : DSp) (sp__law_engines : DSp) (sp__law_five : DSp) (sp__law_ground : DSp) (sp__law_is_told : DSp) (sp__law_other : DSp) {DW : DWt} {DE : DEnds} {p : Rho} {M : Mst} : lw_T1 c_Row sp_Row___eq__ sp_Row___init__ sp_Row___str__ sp__law_bag sp__law_deed sp__law_engines sp__law_five sp__law_ground sp__law_is_told sp__law_other DW DE p M = lw_R1 c_Row sp_Row___eq__ sp_Row___init__ sp_Row___str__ sp__law_bag sp__law_deed sp__law_engines sp__law_five sp__law_ground sp__law_is_told sp__law_other DW { DE with nx := lw_T2 c_Row sp_Row___eq__ sp_Row___init__ sp_Row___str__ sp__law_bag sp__law_deed sp__law_engines sp__law_five sp__law_ground sp__law_is_told sp__law_other DW DE } p M := rfl
theorem lw_t2 (c_Row : Addr) (sp_Row___eq__ : DSp) (sp_Row___init__ : DSp) (sp_Row___str__ : DSp) (sp__law_bag : DSp) (sp__law_deed : DSp) (sp__law_engines : DSp) (sp__law_five : DSp) (sp__law_ground : DSp) (sp__law_is_told : DSp) (sp__law_other : DSp) {DW : DWt} {DE : DEnds} {p : Rho} {M : Mst} : lw_T2 c_Row sp_Row___eq__ sp_Row___init__ sp_Row___str__ sp__law_bag sp__law_deed sp__law_engines sp__law_five sp__law_ground sp__law_is_told sp__law_other DW DE p M = lw_R2 c_Row sp_Row___eq__ sp_Row___init__ sp_Row___str__ sp__law_bag sp__law_deed sp__law_engines sp__law_five sp__law_ground sp__law_is_told sp__law_other DW { DE with nx := lw_T3 c_Row sp_Row___eq__ sp_Row___init__ sp_Row___str__ sp__law_bag sp__law_deed sp__law_engines sp__law_five sp__law_ground sp__law_is_told sp__law_other DW DE } p M := rfl
theorem lw_t3 (c_Row : Addr) (sp_Row___eq__ : DSp) (sp_Row___init__ : DSp) (sp_Row___str__ : DSp) (sp__law_bag : DSp) (sp__law_deed : DSp) (sp__law_engines : DSp) (sp__law_five : DSp) (sp__law_ground : DSp) (sp__law_is_told : DSp) (sp__law_other : DSp) {DW : DWt} {DE : DEnds} {p : Rho} {M : Mst} : lw_T3 c_Row sp_Row___eq__ sp_Row___init__ sp_Row___str__ sp__law_bag sp__law_deed sp__law_engines sp__law_five sp__law_ground sp__law_is_told sp__law_other DW DE p M = lw_R3 c_Row sp_Row___eq__ sp_Row___init__ sp_Row___str__ sp__law_bag sp__law_deed sp__law_engines sp__law_five sp__law_ground sp__law_is_told sp__law_other DW { DE with nx := lw_T4 c_Row sp_Row___eq__ sp_Row___init__ sp_Row___str__ sp__law_bag sp__law_deed sp__law_engines sp__law_five sp__law_ground sp__law_is_told sp__law_other DW DE } p M := rfl
theorem lw_t4 (c_Row : Addr) (sp_Row___eq__ : DSp) (sp_Row___init__ : DSp) (sp_Row___str__ : DSp) (sp__law_bag : DSp) (sp__law_deed : DSp) (sp__law_engines : DSp) (sp__law_five : DSp) (sp__law_ground : DSp) (sp__law_is_told : DSp) (sp__law_other : DSp) {DW : DWt} {DE : DEnds} {p : Rho} {M : Mst} : lw_T4 c_Row sp_Row___eq__ sp_Row___init__ sp_Row___str__ sp__law_bag sp__law_deed sp__law_engines sp__law_five sp__law_ground sp__law_is_told sp__law_other DW DE p M = lw_R4 c_Row sp_Row___eq__ sp_Row___init__ sp_Row___str__ sp__law_bag sp__law_deed sp__law_engines sp__law_five sp__law_ground sp__law_is_told sp__law_other DW { DE with nx := lw_T5 c_Row sp_Row___eq__ sp_Row___init__ sp_Row___str__ sp__law_bag sp__law_deed sp__law_engines sp__law_five sp__law_ground sp__law_is_told sp__law_other DW DE } p M := rfl
theorem lw_t5 (c_Row : Addr) (sp_Row___eq__ : DSp) (sp_Row___init__ : DSp) (sp_Row___str__ : DSp) (sp__law_bag : DSp) (sp__law_deed : DSp) (sp__law_engines : DSp) (sp__law_five : DSp) (sp__law_ground : DSp) (sp__law_is_told : DSp) (sp__law_other : DSp) {DW : DWt} {DE : DEnds} {p : Rho} {M : Mst} : lw_T5 c_Row sp_Row___eq__ sp_Row___init__ sp_Row___str__ sp__law_bag sp__law_deed sp__law_engines sp__law_five sp__law_ground sp__law_is_told sp__law_other DW DE p M = lw_R5 c_Row sp_Row___eq__ sp_Row___init__ sp_Row___str__ sp__law_bag sp__law_deed sp__law_engines sp__law_five sp__law_ground sp__law_is_told sp__law_other DW { DE with nx := lw_T6 c_Row sp_Row___eq__ sp_Row___init__ sp_Row___str__ sp__law_bag sp__law_deed sp__law_engines sp__law_five sp__law_ground sp__law_is_told sp__law_other DW DE } p M := rfl
theorem lw_t6 (c_Row : Addr) (sp_Row___eq__ : DSp) (sp_Row___init__ : DSp) (sp_Row___str__ : DSp) (sp__law_bag : DSp) (sp__law_deed : DSp) (sp__law_engines : DSp) (sp__law_five : DSp) (sp__law_ground : DSp) (sp__law_is_told : DSp) (sp__law_other : DSp) {DW : DWt} {DE : DEnds} {p : Rho} {M : Mst} : lw_T6 c_Row sp_Row___eq__ sp_Row___init__ sp_Row___str__ sp__law_bag sp__law_deed sp__law_engines sp__law_five sp__law_ground sp__law_is_told sp__law_other DW DE p M = lw_R6 c_Row sp_Row___eq__ sp_Row___init__ sp_Row___str__ sp__law_bag sp__law_deed sp__law_engines sp__law_five sp__law_ground sp__law_is_told sp__law_other DW { DE with nx := lw_T7 c_Row sp_Row___eq__ sp_Row___init__ sp_Row___str__ sp__law_bag sp__law_deed sp__law_engines sp__law_five sp__law_ground sp__law_is_told sp__law_other DW DE } p M := rfl
def lb_R0 (c_Row : Addr) (sp_Row___eq__ : DSp) (sp_Row___init__ : DSp) (sp_Row___str__ : DSp) (sp__law_bag : DSp) (sp__law_deed : DSp) (sp__law_engines : DSp) (sp__law_five : DSp) (sp__law_ground : DSp) (sp__law_is_told : DSp) (sp__law_other : DSp) : DTS := (qAsg (qCall sp__law_bag [] (qCons (qVar 0) (qCons (qOp (dAdd false) (qC (.int 1)) (qVar 6)) qNil))) (gNameD 1))
def lb_R1 (c_Row : Addr) (sp_Row___eq__ : DSp) (sp_Row___init__ : DSp) (sp_Row___str__ : DSp) (sp__law_bag : DSp) (sp__law_deed : DSp) (sp__law_engines : DSp) (sp__law_five : DSp) (sp__law_ground : DSp) (sp__law_is_told : DSp) (sp__law_other : DSp) : DTS := (qAsg (qCall sp__law_five [] (qCons (qVar 1) (qCons (qVar 2) (qCons (qVar 3) qNil)))) (gNameD 7))
def lb_R2 (c_Row : Addr) (sp_Row___eq__ : DSp) (sp_Row___init__ : DSp) (sp_Row___str__ : DSp) (sp__law_bag : DSp) (sp__law_deed : DSp) (sp__law_engines : DSp) (sp__law_five : DSp) (sp__law_ground : DSp) (sp__law_is_told : DSp) (sp__law_other : DSp) : DTS := (qAsg (qFrzE (qMake c_Row sp_Row___init__ [] (qCons (qOp dIx (qVar 7) (qC (.int 0))) (qCons (qOp dIx (qVar 7) (qC (.int 1))) (qCons (qOp dIx (qVar 7) (qC (.int 2))) (qCons (qOp dIx (qVar 7) (qC (.int 3))) (qCons (qOp dIx (qVar 7) (qC (.int 4))) qNil))))))) (gNameD 8))
def lb_R3 (c_Row : Addr) (sp_Row___eq__ : DSp) (sp_Row___init__ : DSp) (sp_Row___str__ : DSp) (sp__law_bag : DSp) (sp__law_deed : DSp) (sp__law_engines : DSp) (sp__law_five : DSp) (sp__law_ground : DSp) (sp__law_is_told : DSp) (sp__law_other : DSp) : DTS := (qAsg (qFrzE (qMakeKw c_Row 1 5 sp_Row___init__ [0, 4, 5, 3, 1, 2] qNil (qCons (qOp dIx (qVar 7) (qC (.int 3))) (qCons (qOp dIx (qVar 7) (qC (.int 4))) (qCons (qOp dIx (qVar 7) (qC (.int 2))) (qCons (qOp dIx (qVar 7) (qC (.int 0))) (qCons (qOp dIx (qVar 7) (qC (.int 1))) qNil))))))) (gNameD 9))
def lb_R4 (c_Row : Addr) (sp_Row___eq__ : DSp) (sp_Row___init__ : DSp) (sp_Row___str__ : DSp) (sp__law_bag : DSp) (sp__law_deed : DSp) (sp__law_engines : DSp) (sp__law_five : DSp) (sp__law_ground : DSp) (sp__law_is_told : DSp) (sp__law_other : DSp) : DTS := (qAsg (qCall sp__law_other [] (qCons (qVar 1) (qCons (qVar 7) (qCons (qCall sp__law_deed [] (qCons (qVar 1) (qCons (qVar 2) (qCons (qVar 3) (qCons (qLst false qNil) qNil))))) qNil)))) (gNameD 10))
def lb_R5 (c_Row : Addr) (sp_Row___eq__ : DSp) (sp_Row___init__ : DSp) (sp_Row___str__ : DSp) (sp__law_bag : DSp) (sp__law_deed : DSp) (sp__law_engines : DSp) (sp__law_five : DSp) (sp__law_ground : DSp) (sp__law_is_told : DSp) (sp__law_other : DSp) : DTS := (qAsg (qFrzE (qMakeKw c_Row 5 1 sp_Row___init__ [0, 1, 2, 3, 4, 5] (qCons (qOp dIx (qVar 10) (qC (.int 0))) (qCons (qOp dIx (qVar 10) (qC (.int 1))) (qCons (qOp dIx (qVar 10) (qC (.int 2))) (qCons (qOp dIx (qVar 10) (qC (.int 3))) qNil)))) (qCons (qOp dIx (qVar 10) (qC (.int 4))) qNil))) (gNameD 11))
def lb_R6 (c_Row : Addr) (sp_Row___eq__ : DSp) (sp_Row___init__ : DSp) (sp_Row___str__ : DSp) (sp__law_bag : DSp) (sp__law_deed : DSp) (sp__law_engines : DSp) (sp__law_five : DSp) (sp__law_ground : DSp) (sp__law_is_told : DSp) (sp__law_other : DSp) : DTS := (qIfS (qOr (qNot (qTB (qCall sp__law_is_told [] (qCons (qVar 8) (qCons (qVar 7) qNil))))) (qOr (qNot (qTB (qCall sp__law_is_told [] (qCons (qVar 9) (qCons (qVar 7) qNil))))) (qNot (qTB (qCall sp__law_is_told [] (qCons (qVar 11) (qCons (qVar 10) qNil))))))) (qRet (qC (.bl false))) qNext)
def lb_R7 (c_Row : Addr) (sp_Row___eq__ : DSp) (sp_Row___init__ : DSp) (sp_Row___str__ : DSp) (sp__law_bag : DSp) (sp__law_deed : DSp) (sp__law_engines : DSp) (sp__law_five : DSp) (sp__law_ground : DSp) (sp__law_is_told : DSp) (sp__law_other : DSp) : DTS := (qAsg (qOp (dEq false) (qVar 7) (qVar 10)) (gNameD 12))
def lb_R8 (c_Row : Addr) (sp_Row___eq__ : DSp) (sp_Row___init__ : DSp) (sp_Row___str__ : DSp) (sp__law_bag : DSp) (sp__law_deed : DSp) (sp__law_engines : DSp) (sp__law_five : DSp) (sp__law_ground : DSp) (sp__law_is_told : DSp) (sp__law_other : DSp) : DTS := (qIfS (qOr (qNot (qTB (qOp (dOwn false c_Row sp_Row___eq__) (qVar 8) (qVar 9)))) (qOr (qTB (qOp (dOwn true c_Row sp_Row___eq__) (qVar 8) (qVar 9))) (qOr (qTB (qOp (dEq true) (qOp (dOwn false c_Row sp_Row___eq__) (qVar 8) (qVar 11)) (qVar 12))) (qTB (qOp (dEq true) (qOp (dOwn false c_Row sp_Row___eq__) (qVar 11) (qVar 8)) (qVar 12)))))) (qRet (qC (.bl false))) qNext)
def lb_R9 (c_Row : Addr) (sp_Row___eq__ : DSp) (sp_Row___init__ : DSp) (sp_Row___str__ : DSp) (sp__law_bag : DSp) (sp__law_deed : DSp) (sp__law_engines : DSp) (sp__law_five : DSp) (sp__law_ground : DSp) (sp__law_is_told : DSp) (sp__law_other : DSp) : DTS := (qIfS (qOr (qTB (qOp (dEq true) (qOp (dInOR c_Row sp_Row___eq__) (qVar 8) (qVar 4)) (qOp (dInD false) (qVar 7) (qVar 5)))) (qTB (qOp (dEqO true c_Row sp_Row___eq__) (qOp (dAdd false) (qVar 4) (qLst false (qCons (qVar 9) qNil))) (qOp (dAdd false) (qVar 4) (qLst false (qCons (qVar 8) qNil)))))) (qRet (qC (.bl false))) qNext)
def lb_R10 (c_Row : Addr) (sp_Row___eq__ : DSp) (sp_Row___init__ : DSp) (sp_Row___str__ : DSp) (sp__law_bag : DSp) (sp__law_deed : DSp) (sp__law_engines : DSp) (sp__law_five : DSp) (sp__law_ground : DSp) (sp__law_is_told : DSp) (sp__law_other : DSp) : DTS := (qDrop (qBM "list" mApp (qVar 4) (qCons (qVar 8) qNil)))
def lb_R11 (c_Row : Addr) (sp_Row___eq__ : DSp) (sp_Row___init__ : DSp) (sp_Row___str__ : DSp) (sp__law_bag : DSp) (sp__law_deed : DSp) (sp__law_engines : DSp) (sp__law_five : DSp) (sp__law_ground : DSp) (sp__law_is_told : DSp) (sp__law_other : DSp) : DTS := (qDrop (qBM "list" mApp (qVar 5) (qCons (qVar 7) qNil)))
def lb_T11 (c_Row : Addr) (sp_Row___eq__ : DSp) (sp_Row___init__ : DSp) (sp_Row___str__ : DSp) (sp__law_bag : DSp) (sp__law_deed : DSp) (sp__law_engines : DSp) (sp__law_five : DSp) (sp__law_ground : DSp) (sp__law_is_told : DSp) (sp__law_other : DSp) : DTS := lb_R11 c_Row sp_Row___eq__ sp_Row___init__ sp_Row___str__ sp__law_bag sp__law_deed sp__law_engines sp__law_five sp__law_ground sp__law_is_told sp__law_other
def lb_T10 (c_Row : Addr) (sp_Row___eq__ : DSp) (sp_Row___init__ : DSp) (sp_Row___str__ : DSp) (sp__law_bag : DSp) (sp__law_deed : DSp) (sp__law_engines : DSp) (sp__law_five : DSp) (sp__law_ground : DSp) (sp__law_is_told : DSp) (sp__law_other : DSp) : DTS := qSeq (lb_R10 c_Row sp_Row___eq__ sp_Row___init__ sp_Row___str__ sp__law_bag sp__law_deed sp__law_engines sp__law_five sp__law_ground sp__law_is_told sp__law_other) (lb_T11 c_Row sp_Row___eq__ sp_Row___init__ sp_Row___str__ sp__law_bag sp__law_deed sp__law_engines sp__law_five sp__law_ground sp__law_is_told sp__law_other)
def lb_T9 (c_Row : Addr) (sp_Row___eq__ : DSp) (sp_Row___init__ : DSp) (sp_Row___str__ : DSp) (sp__law_bag : DSp) (sp__law_deed : DSp) (sp__law_engines : DSp) (sp__law_five : DSp) (sp__law_ground : DSp) (sp__law_is_told : DSp) (sp__law_other : DSp) : DTS := qSeq (lb_R9 c_Row sp_Row___eq__ sp_Row___init__ sp_Row___str__ sp__law_bag sp__law_deed sp__law_engines sp__law_five sp__law_ground sp__law_is_told sp__law_other) (lb_T10 c_Row sp_Row___eq__ sp_Row___init__ sp_Row___str__ sp__law_bag sp__law_deed sp__law_engines sp__law_five sp__law_ground sp__law_is_told sp__law_other)
def lb_T8 (c_Row : Addr) (sp_Row___eq__ : DSp) (sp_Row___init__ : DSp) (sp_Row___str__ : DSp) (sp__law_bag : DSp) (sp__law_deed : DSp) (sp__law_engines : DSp) (sp__law_five : DSp) (sp__law_ground : DSp) (sp__law_is_told : DSp) (sp__law_other : DSp) : DTS := qSeq (lb_R8 c_Row sp_Row___eq__ sp_Row___init__ sp_Row___str__ sp__law_bag sp__law_deed sp__law_engines sp__law_five sp__law_ground sp__law_is_told sp__law_other) (lb_T9 c_Row sp_Row___eq__ sp_Row___init__ sp_Row___str__ sp__law_bag sp__law_deed sp__law_engines sp__law_five sp__law_ground sp__law_is_told sp__law_other)
def lb_T7 (c_Row : Addr) (sp_Row___eq__ : DSp) (sp_Row___init__ : DSp) (sp_Row___str__ : DSp) (sp__law_bag : DSp) (sp__law_deed : DSp) (sp__law_engines : DSp) (sp__law_five : DSp) (sp__law_ground : DSp) (sp__law_is_told : DSp) (sp__law_other : DSp) : DTS := qSeq (lb_R7 c_Row sp_Row___eq__ sp_Row___init__ sp_Row___str__ sp__law_bag sp__law_deed sp__law_engines sp__law_five sp__law_ground sp__law_is_told sp__law_other) (lb_T8 c_Row sp_Row___eq__ sp_Row___init__ sp_Row___str__ sp__law_bag sp__law_deed sp__law_engines sp__law_five sp__law_ground sp__law_is_told sp__law_other)
def lb_T6 (c_Row : Addr) (sp_Row___eq__ : DSp) (sp_Row___init__ : DSp) (sp_Row___str__ : DSp) (sp__law_bag : DSp) (sp__law_deed : DSp) (sp__law_engines : DSp) (sp__law_five : DSp) (sp__law_ground : DSp) (sp__law_is_told : DSp) (sp__law_other : DSp) : DTS := qSeq (lb_R6 c_Row sp_Row___eq__ sp_Row___init__ sp_Row___str__ sp__law_bag sp__law_deed sp__law_engines sp__law_five sp__law_ground sp__law_is_told sp__law_other) (lb_T7 c_Row sp_Row___eq__ sp_Row___init__ sp_Row___str__ sp__law_bag sp__law_deed sp__law_engines sp__law_five sp__law_ground sp__law_is_told sp__law_other)
def lb_T5 (c_Row : Addr) (sp_Row___eq__ : DSp) (sp_Row___init__ : DSp) (sp_Row___str__ : DSp) (sp__law_bag : DSp) (sp__law_deed : DSp) (sp__law_engines : DSp) (sp__law_five : DSp) (sp__law_ground : DSp) (sp__law_is_told : DSp) (sp__law_other : DSp) : DTS := qSeq (lb_R5 c_Row sp_Row___eq__ sp_Row___init__ sp_Row___str__ sp__law_bag sp__law_deed sp__law_engines sp__law_five sp__law_ground sp__law_is_told sp__law_other) (lb_T6 c_Row sp_Row___eq__ sp_Row___init__ sp_Row___str__ sp__law_bag sp__law_deed sp__law_engines sp__law_five sp__law_ground sp__law_is_told sp__law_other)
def lb_T4 (c_Row : Addr) (sp_Row___eq__ : DSp) (sp_Row___init__ : DSp) (sp_Row___str__ : DSp) (sp__law_bag : DSp) (sp__law_deed : DSp) (sp__law_engines : DSp) (sp__law_five : DSp) (sp__law_ground : DSp) (sp__law_is_told : DSp) (sp__law_other : DSp) : DTS := qSeq (lb_R4 c_Row sp_Row___eq__ sp_Row___init__ sp_Row___str__ sp__law_bag sp__law_deed sp__law_engines sp__law_five sp__law_ground sp__law_is_told sp__law_other) (lb_T5 c_Row sp_Row___eq__ sp_Row___init__ sp_Row___str__ sp__law_bag sp__law_deed sp__law_engines sp__law_five sp__law_ground sp__law_is_told sp__law_other)
def lb_T3 (c_Row : Addr) (sp_Row___eq__ : DSp) (sp_Row___init__ : DSp) (sp_Row___str__ : DSp) (sp__law_bag : DSp) (sp__law_deed : DSp) (sp__law_engines : DSp) (sp__law_five : DSp) (sp__law_ground : DSp) (sp__law_is_told : DSp) (sp__law_other : DSp) : DTS := qSeq (lb_R3 c_Row sp_Row___eq__ sp_Row___init__ sp_Row___str__ sp__law_bag sp__law_deed sp__law_engines sp__law_five sp__law_ground sp__law_is_told sp__law_other) (lb_T4 c_Row sp_Row___eq__ sp_Row___init__ sp_Row___str__ sp__law_bag sp__law_deed sp__law_engines sp__law_five sp__law_ground sp__law_is_told sp__law_other)
def lb_T2 (c_Row : Addr) (sp_Row___eq__ : DSp) (sp_Row___init__ : DSp) (sp_Row___str__ : DSp) (sp__law_bag : DSp) (sp__law_deed : DSp) (sp__law_engines : DSp) (sp__law_five : DSp) (sp__law_ground : DSp) (sp__law_is_told : DSp) (sp__law_other : DSp) : DTS := qSeq (lb_R2 c_Row sp_Row___eq__ sp_Row___init__ sp_Row___str__ sp__law_bag sp__law_deed sp__law_engines sp__law_five sp__law_ground sp__law_is_told sp__law_other) (lb_T3 c_Row sp_Row___eq__ sp_Row___init__ sp_Row___str__ sp__law_bag sp__law_deed sp__law_engines sp__law_five sp__law_ground sp__law_is_told sp__law_other)
def lb_T1 (c_Row : Addr) (sp_Row___eq__ : DSp) (sp_Row___init__ : DSp) (sp_Row___str__ : DSp) (sp__law_bag : DSp) (sp__law_deed : DSp) (sp__law_engines : DSp) (sp__law_five : DSp) (sp__law_ground : DSp) (sp__law_is_told : DSp) (sp__law_other : DSp) : DTS := qSeq (lb_R1 c_Row sp_Row___eq__ sp_Row___init__ sp_Row___str__ sp__law_bag sp__law_deed sp__law_engines sp__law_five sp__law_ground sp__law_is_told sp__law_other) (lb_T2 c_Row sp_Row___eq__ sp_Row___init__ sp_Row___str__ sp__law_bag sp__law_deed sp__law_engines sp__law_five sp__law_ground sp__law_is_told sp__law_other)
def lb_T0 (c_Row : Addr) (sp_Row___eq__ : DSp) (sp_Row___init__ : DSp) (sp_Row___str__ : DSp) (sp__law_bag : DSp) (sp__law_deed : DSp) (sp__law_engines : DSp) (sp__law_five : DSp) (sp__law_ground : DSp) (sp__law_is_told : DSp) (sp__law_other : DSp) : DTS := qSeq (lb_R0 c_Row sp_Row___eq__ sp_Row___init__ sp_Row___str__ sp__law_bag sp__law_deed sp__law_engines sp__law_five sp__law_ground sp__law_is_told sp__law_other) (lb_T1 c_Row sp_Row___eq__ sp_Row___init__ sp_Row___str__ sp__law_bag sp__law_deed sp__law_engines sp__law_five sp__law_ground sp__law_is_told sp__law_other)
theorem lw_for4 (c_Row : Addr) (sp_Row___eq__ : DSp) (sp_Row___init__ : DSp) (sp_Row___str__ : DSp) (sp__law_bag : DSp) (sp__law_deed : DSp) (sp__law_engines : DSp) (sp__law_five : DSp) (sp__law_ground : DSp) (sp__law_is_told : DSp) (sp__law_other : DSp) : lw_R4 c_Row sp_Row___eq__ sp_Row___init__ sp_Row___str__ sp__law_bag sp__law_deed sp__law_engines sp__law_five sp__law_ground sp__law_is_told sp__law_other = qFor (qiRng1 (qCons (qCB dMax2 (qCons (qC (.int 3)) (qCons (qCB dMin2 (qCons (qC (.int 8)) (qCons (qOp (dInt0 fun i j => i - j) (qCB dLen (qCons (qVar 0) qNil)) (qC (.int 1))) qNil))) qNil))) qNil)) (gNameD 6) (lb_T0 c_Row sp_Row___eq__ sp_Row___init__ sp_Row___str__ sp__law_bag sp__law_deed sp__law_engines sp__law_five sp__law_ground sp__law_is_told sp__law_other) := rfl
theorem lb_t0 (c_Row : Addr) (sp_Row___eq__ : DSp) (sp_Row___init__ : DSp) (sp_Row___str__ : DSp) (sp__law_bag : DSp) (sp__law_deed : DSp) (sp__law_engines : DSp) (sp__law_five : DSp) (sp__law_ground : DSp) (sp__law_is_told : DSp) (sp__law_other : DSp) {DW : DWt} {DE : DEnds} {p : Rho} {M : Mst} : lb_T0 c_Row sp_Row___eq__ sp_Row___init__ sp_Row___str__ sp__law_bag sp__law_deed sp__law_engines sp__law_five sp__law_ground sp__law_is_told sp__law_other DW DE p M = lb_R0 c_Row sp_Row___eq__ sp_Row___init__ sp_Row___str__ sp__law_bag sp__law_deed sp__law_engines sp__law_five sp__law_ground sp__law_is_told sp__law_other DW { DE with nx := lb_T1 c_Row sp_Row___eq__ sp_Row___init__ sp_Row___str__ sp__law_bag sp__law_deed sp__law_engines sp__law_five sp__law_ground sp__law_is_told sp__law_other DW DE } p M := rfl
theorem lb_t1 (c_Row : Addr) (sp_Row___eq__ : DSp) (sp_Row___init__ : DSp) (sp_Row___str__ : DSp) (sp__law_bag : DSp) (sp__law_deed : DSp) (sp__law_engines : DSp) (sp__law_five : DSp) (sp__law_ground : DSp) (sp__law_is_told : DSp) (sp__law_other : DSp) {DW : DWt} {DE : DEnds} {p : Rho} {M : Mst} : lb_T1 c_Row sp_Row___eq__ sp_Row___init__ sp_Row___str__ sp__law_bag sp__law_deed sp__law_engines sp__law_five sp__law_ground sp__law_is_told sp__law_other DW DE p M = lb_R1 c_Row sp_Row___eq__ sp_Row___init__ sp_Row___str__ sp__law_bag sp__law_deed sp__law_engines sp__law_five sp__law_ground sp__law_is_told sp__law_other DW { DE with nx := lb_T2 c_Row sp_Row___eq__ sp_Row___init__ sp_Row___str__ sp__law_bag sp__law_deed sp__law_engines sp__law_five sp__law_ground sp__law_is_told sp__law_other DW DE } p M := rfl
theorem lb_t2 (c_Row : Addr) (sp_Row___eq__ : DSp) (sp_Row___init__ : DSp) (sp_Row___str__ : DSp) (sp__law_bag : DSp) (sp__law_deed : DSp) (sp__law_engines : DSp) (sp__law_five : DSp) (sp__law_ground : DSp) (sp__law_is_told : DSp) (sp__law_other : DSp) {DW : DWt} {DE : DEnds} {p : Rho} {M : Mst} : lb_T2 c_Row sp_Row___eq__ sp_Row___init__ sp_Row___str__ sp__law_bag sp__law_deed sp__law_engines sp__law_five sp__law_ground sp__law_is_told sp__law_other DW DE p M = lb_R2 c_Row sp_Row___eq__ sp_Row___init__ sp_Row___str__ sp__law_bag sp__law_deed sp__law_engines sp__law_five sp__law_ground sp__law_is_told sp__law_other DW { DE with nx := lb_T3 c_Row sp_Row___eq__ sp_Row___init__ sp_Row___str__ sp__law_bag sp__law_deed sp__law_engines sp__law_five sp__law_ground sp__law_is_told sp__law_other DW DE } p M := rfl
theorem lb_t3 (c_Row : Addr) (sp_Row___eq__ : DSp) (sp_Row___init__ : DSp) (sp_Row___str__ : DSp) (sp__law_bag : DSp) (sp__law_deed : DSp) (sp__law_engines : DSp) (sp__law_five : DSp) (sp__law_ground : DSp) (sp__law_is_told : DSp) (sp__law_other : DSp) {DW : DWt} {DE : DEnds} {p : Rho} {M : Mst} : lb_T3 c_Row sp_Row___eq__ sp_Row___init__ sp_Row___str__ sp__law_bag sp__law_deed sp__law_engines sp__law_five sp__law_ground sp__law_is_told sp__law_other DW DE p M = lb_R3 c_Row sp_Row___eq__ sp_Row___init__ sp_Row___str__ sp__law_bag sp__law_deed sp__law_engines sp__law_five sp__law_ground sp__law_is_told sp__law_other DW { DE with nx := lb_T4 c_Row sp_Row___eq__ sp_Row___init__ sp_Row___str__ sp__law_bag sp__law_deed sp__law_engines sp__law_five sp__law_ground sp__law_is_told sp__law_other DW DE } p M := rfl
theorem lb_t4 (c_Row : Addr) (sp_Row___eq__ : DSp) (sp_Row___init__ : DSp) (sp_Row___str__ : DSp) (sp__law_bag : DSp) (sp__law_deed : DSp) (sp__law_engines : DSp) (sp__law_five : DSp) (sp__law_ground : DSp) (sp__law_is_told : DSp) (sp__law_other : DSp) {DW : DWt} {DE : DEnds} {p : Rho} {M : Mst} : lb_T4 c_Row sp_Row___eq__ sp_Row___init__ sp_Row___str__ sp__law_bag sp__law_deed sp__law_engines sp__law_five sp__law_ground sp__law_is_told sp__law_other DW DE p M = lb_R4 c_Row sp_Row___eq__ sp_Row___init__ sp_Row___str__ sp__law_bag sp__law_deed sp__law_engines sp__law_five sp__law_ground sp__law_is_told sp__law_other DW { DE with nx := lb_T5 c_Row sp_Row___eq__ sp_Row___init__ sp_Row___str__ sp__law_bag sp__law_deed sp__law_engines sp__law_five sp__law_ground sp__law_is_told sp__law_other DW DE } p M := rfl
theorem lb_t5 (c_Row : Addr) (sp_Row___eq__ : DSp) (sp_Row___init__ : DSp) (sp_Row___str__ : DSp) (sp__law_bag : DSp) (sp__law_deed : DSp) (sp__law_engines : DSp) (sp__law_five : DSp) (sp__law_ground : DSp) (sp__law_is_told : DSp) (sp__law_other : DSp) {DW : DWt} {DE : DEnds} {p : Rho} {M : Mst} : lb_T5 c_Row sp_Row___eq__ sp_Row___init__ sp_Row___str__ sp__law_bag sp__law_deed sp__law_engines sp__law_five sp__law_ground sp__law_is_told sp__law_other DW DE p M = lb_R5 c_Row sp_Row___eq__ sp_Row___init__ sp_Row___str__ sp__law_bag sp__law_deed sp__law_engines sp__law_five sp__law_ground sp__law_is_told sp__law_other DW { DE with nx := lb_T6 c_Row sp_Row___eq__ sp_Row___init__ sp_Row___str__ sp__law_bag sp__law_deed sp__law_engines sp__law_five sp__law_ground sp__law_is_told sp__law_other DW DE } p M := rfl
theorem lb_t6 (c_Row : Addr) (sp_Row___eq__ : DSp) (sp_Row___init__ : DSp) (sp_Row___str__ : DSp) (sp__law_bag : DSp) (sp__law_deed : DSp) (sp__law_engines : DSp) (sp__law_five : DSp) (sp__law_ground : DSp) (sp__law_is_told : DSp) (sp__law_other : DSp) {DW : DWt} {DE : DEnds} {p : Rho} {M : Mst} : lb_T6 c_Row sp_Row___eq__ sp_Row___init__ sp_Row___str__ sp__law_bag sp__law_deed sp__law_engines sp__law_five sp__law_ground sp__law_is_told sp__law_other DW DE p M = lb_R6 c_Row sp_Row___eq__ sp_Row___init__ sp_Row___str__ sp__law_bag sp__law_deed sp__law_engines sp__law_five sp__law_ground sp__law_is_told sp__law_other DW { DE with nx := lb_T7 c_Row sp_Row___eq__ sp_Row___init__ sp_Row___str__ sp__law_bag sp__law_deed sp__law_engines sp__law_five sp__law_ground sp__law_is_told sp__law_other DW DE } p M := rfl
theorem lb_t7 (c_Row : Addr) (sp_Row___eq__ : DSp) (sp_Row___init__ : DSp) (sp_Row___str__ : DSp) (sp__law_bag : DSp) (sp__law_deed : DSp) (sp__law_engines : DSp) (sp__law_five : DSp) (sp__law_ground : DSp) (sp__law_is_told : DSp) (sp__law_other : DSp) {DW : DWt} {DE : DEnds} {p : Rho} {M : Mst} : lb_T7 c_Row sp_Row___eq__ sp_Row___init__ sp_Row___str__ sp__law_bag sp__law_deed sp__law_engines sp__law_five sp__law_ground sp__law_is_told sp__law_other DW DE p M = lb_R7 c_Row sp_Row___eq__ sp_Row___init__ sp_Row___str__ sp__law_bag sp__law_deed sp__law_engines sp__law_five sp__law_ground sp__law_is_told sp__law_other DW { DE with nx := lb_T8 c_Row sp_Row___eq__ sp_Row___init__ sp_Row___str__ sp__law_bag sp__law_deed sp__law_engines sp__law_five sp__law_ground sp__law_is_told sp__law_other DW DE } p M := rfl
theorem lb_t8 (c_Row : Addr) (sp_Row___eq__ : DSp) (sp_Row___init__ : DSp) (sp_Row___str__ : DSp) (sp__law_bag : DSp) (sp__law_deed : DSp) (sp__law_engines : DSp) (sp__law_five : DSp) (sp__law_ground : DSp) (sp__law_is_told : DSp) (sp__law_other : DSp) {DW : DWt} {DE : DEnds} {p : Rho} {M : Mst} : lb_T8 c_Row sp_Row___eq__ sp_Row___init__ sp_Row___str__ sp__law_bag sp__law_deed sp__law_engines sp__law_five sp__law_ground sp__law_is_told sp__law_other DW DE p M = lb_R8 c_Row sp_Row___eq__ sp_Row___init__ sp_Row___str__ sp__law_bag sp__law_deed sp__law_engines sp__law_five sp__law_ground sp__law_is_told sp__law_other DW { DE with nx := lb_T9 c_Row sp_Row___eq__ sp_Row___init__ sp_Row___str__ sp__law_bag sp__law_deed sp__law_engines sp__law_five sp__law_ground sp__law_is_told sp__law_other DW DE } p M := rfl
theorem lb_t9 (c_Row : Addr) (sp_Row___eq__ : DSp) (sp_Row___init__ : DSp) (sp_Row___str__ : DSp) (sp__law_bag : DSp) (sp__law_deed : DSp) (sp__law_engines : DSp) (sp__law_five : DSp) (sp__law_ground : DSp) (sp__law_is_told : DSp) (sp__law_other : DSp) {DW : DWt} {DE : DEnds} {p : Rho} {M : Mst} : lb_T9 c_Row sp_Row___eq__ sp_Row___init__ sp_Row___str__ sp__law_bag sp__law_deed sp__law_engines sp__law_five sp__law_ground sp__law_is_told sp__law_other DW DE p M = lb_R9 c_Row sp_Row___eq__ sp_Row___init__ sp_Row___str__ sp__law_bag sp__law_deed sp__law_engines sp__law_five sp__law_ground sp__law_is_told sp__law_other DW { DE with nx := lb_T10 c_Row sp_Row___eq__ sp_Row___init__ sp_Row___str__ sp__law_bag sp__law_deed sp__law_engines sp__law_five sp__law_ground sp__law_is_told sp__law_other DW DE } p M := rfl
theorem lb_t10 (c_Row : Addr) (sp_Row___eq__ : DSp) (sp_Row___init__ : DSp) (sp_Row___str__ : DSp) (sp__law_bag : DSp) (sp__law_deed : DSp) (sp__law_engines : DSp) (sp__law_five : DSp) (sp__law_ground : DSp) (sp__law_is_told : DSp) (sp__law_other : DSp) {DW : DWt} {DE : DEnds} {p : Rho} {M : Mst} : lb_T10 c_Row sp_Row___eq__ sp_Row___init__ sp_Row___str__ sp__law_bag sp__law_deed sp__law_engines sp__law_five sp__law_ground sp__law_is_told sp__law_other DW DE p M = lb_R10 c_Row sp_Row___eq__ sp_Row___init__ sp_Row___str__ sp__law_bag sp__law_deed sp__law_engines sp__law_five sp__law_ground sp__law_is_told sp__law_other DW { DE with nx := lb_T11 c_Row sp_Row___eq__ sp_Row___init__ sp_Row___str__ sp__law_bag sp__law_deed sp__law_engines sp__law_five sp__law_ground sp__law_is_told sp__law_other DW DE } p M := rfl
abbrev F5 := HDeed × Int × Int × Int × Int
def fl (v : F5) : List D := fvL v.1 v.2.1 v.2.2.1 v.2.2.2.1 v.2.2.2.2
def ro (c : Addr) (v : F5) : D := .ins c FRow (fl v)
theorem fl_prm (v : F5) : prmL (fl v) = true := fvL_prm ..
theorem fl_dep (v : F5) : dep (.tup (fl v)) ≤ 64 := Nat.le_trans (fv_dep ..) (by decide)
theorem roweq_call {c : Addr} {v u : F5} {M : Mst} {R : DK} {E : DX → Mst → Prop} (k : ∀ b : Bool, (b = true ↔ fl v = fl u) → R (.bl b) M) : spRowEq c [ro c v, ro c u] M R E :=
  ⟨fl v, ro c u, rfl, rfl, fl_prm v, fl_dep v, .inl ⟨fl u, rfl, rfl, fl_prm u, k⟩⟩
theorem same_fl {c : Addr} {v u : F5} (h : sameC (ro c v) (ro c u)) : fl v = fl u := sameC_ins (prmL_plain _ (fl_prm v)) (prmL_plain _ (fl_prm u)) h
theorem inDR_ok {c : Addr} {x : F5} {y : D} {all : List D} {M : Mst} {Q : DK} (hy : res M y = .lst all) : ∀ (l : List F5) (_ : ∀ b : Bool, (b = true ↔ ∃ v ∈ l, fl v = fl x) → Q (.bl b) M), inDR c (spRowEq c) (ro c x) y all (l.map (ro c)) M Q
  | [], k => ⟨hy, k false ⟨fun h => (by cases h), fun ⟨_, h, _⟩ => nomatch h⟩⟩
  | v :: l, k => by
    refine ⟨hy, ⟨_, _, rfl⟩, fun h => k true ⟨fun _ => ⟨v, List.mem_cons_self .., same_fl h⟩, fun _ => rfl⟩, roweq_call fun b hb => ⟨b, rfl, fun h => ?_, fun h => ?_⟩⟩
    · exact k true ⟨fun _ => ⟨v, List.mem_cons_self .., hb.mp h⟩, fun _ => rfl⟩
    · have n : ¬ fl v = fl x := fun z => by rw [hb.mpr z] at h; cases h
      refine inDR_ok hy l fun b2 h2 => k b2 ⟨fun z => ?_, fun ⟨u, hu, e⟩ => ?_⟩
      · obtain ⟨u, hu, e⟩ := h2.mp z
        exact ⟨u, List.mem_cons_of_mem _ hu, e⟩
      · rcases List.mem_cons.mp hu with rfl | hu
        · exact absurd e n
        · exact h2.mpr ⟨u, hu, e⟩
theorem inOR_ok {c : Addr} {x : F5} {y : D} {l : List F5} {M : Mst} {Q : DK} (hy : res M y = .lst (l.map (ro c))) (k : ∀ b : Bool, (b = true ↔ ∃ v ∈ l, fl v = fl x) → Q (.bl b) M) : dInOR c (spRowEq c) (ro c x) y M Q :=
  ⟨⟨_, _, rfl⟩, _, hy, inDR_ok hy l k⟩
theorem eqLD_ok {c : Addr} {neg : Bool} {x y : D} {all : List D} {M : Mst} {Q : DK} (hx : res M x = .lst all) (hy : res M y = .lst all) (k : Q (.bl (!neg)) M) : ∀ l : List F5, eqLD neg c (spRowEq c) x y all all (l.map (ro c)) (l.map (ro c)) M Q
  | [] => ⟨hx, hy, k⟩
  | v :: l => by
    refine ⟨hx, hy, ⟨_, _, rfl⟩, ⟨_, _, rfl⟩, fun _ => eqLD_ok hx hy k l, roweq_call fun b hb => ⟨b, rfl, fun _ => eqLD_ok hx hy k l, fun h => ?_⟩⟩
    rw [hb.mpr rfl] at h; cases h
theorem in_fives {l : List F5} {x : F5} {y : D} {M : Mst} {Q : DK} (hy : res M y = .lst (l.map fun v => .tup (fl v))) (k : ∀ b : Bool, (b = true ↔ ∃ v ∈ l, fl v = fl x) → Q (.bl b) M) : dInD false (.tup (fl x)) y M Q := by
  unfold dInD
  rw [hy]
  have d1 : isData (.lst (l.map fun v => D.tup (fl v))) = true := by
    show isDataL _ = true
    rw [isDataL_all, List.all_map, List.all_eq_true]; intro v _; exact prm_data (.tup (fl v)) (fl_prm v)
  have d2 : dep (.lst (l.map fun v => D.tup (fl v))) ≤ 64 := Nat.le_trans (dep_lst (n := 2) fun d hd => by obtain ⟨v, _, rfl⟩ := List.mem_map.mp hd; exact fv_dep ..) (by decide)
  refine ⟨prm_data (.tup (fl x)) (fl_prm x), d1, fl_dep x, d2, ?_⟩
  rw [Bool.false_xor]
  refine k _ ?_
  rw [List.any_map, List.any_eq_true]
  constructor
  · rintro ⟨v, hv, e⟩
    have := (prm_deq (d := .tup (fl v)) (e := .tup (fl x)) (fl_prm v) (fl_prm x)).mp e
    injection this with this
    exact ⟨v, hv, this⟩
  · rintro ⟨v, hv, e⟩
    exact ⟨v, hv, (prm_deq (d := .tup (fl v)) (e := .tup (fl x)) (fl_prm v) (fl_prm x)).mpr (by rw [e])⟩
structure St24 (c : Addr) (M : Mst) (q4 q5 : Addr) (l : List F5) (i : Nat) : Prop where
  rw : M q4 = some (.lst (l.map (ro c)))
  fv : M q5 = some (.lst (l.map fun v => .tup (fl v)))
  ne : q4 ≠ q5
  le : l.length ≤ i
theorem St24.up {c : Addr} {M M' : Mst} {q4 q5 : Addr} {l : List F5} {i : Nat} (h : St24 c M q4 q5 l i) (s : DL.Sub M M') : St24 c M' q4 q5 l i := { h with rw := s _ _ h.rw, fv := s _ _ h.fv }
theorem lbody_ok {c : Addr} {ns : List Int} {ps : List Pc_} {rs : List Rd_} {ss : List Str} {es : List Eng} {q4 q5 : Addr} {l : List F5} {i : Nat} {M : Mst} {R : Rho → Mst → Prop} {Q : DK} {B : Rho → Mst → Prop} {Ed : DX → Mst → Prop} {x1 x7 x8 x9 x10 x11 x12 : Option D} (hi : i < 900) (hg : GrdOk ps rs ss) (he : EngsOk ss es) (hS : St24 c M q4 q5 l i)
    (next : ∀ x1 x7 x8 x9 x10 x11 x12 l M2, St24 c M2 q4 q5 l (i + 1) → R [some (.scr ns), x1, some (grT ps rs ss), some (.tup (es.map egD)), some (.ref q4), some (.ref q5), some (.int (i : Int)), x7, x8, x9, x10, x11, x12, none] M2) :
    lb_T0 c (spRowEq c) (spRowInit c) (spRowStr c) spBag spHDeed spHEngines spLFive spHGround (spTold c) spLOther (fun x _ M => Ed x M) { nx := R, rt := Q, bk := B, ct := R } [some (.scr ns), x1, some (grT ps rs ss), some (.tup (es.map egD)), some (.ref q4), some (.ref q5), some (.int (i : Int)), x7, x8, x9, x10, x11, x12, none] M := by
  have names : ∀ z ∈ ps.map (·.1), nameS z = true := fun z hz => by obtain ⟨p, hp, rfl⟩ := List.mem_map.mp hz; exact (hg.pm p hp).1
  have words : ∀ {x : HDeed}, DeedOk (ps.map (·.1)) ss (es.map (·.1)) rs.length x → ∀ d ∈ D.str x.word :: x.args, WordOk d := fun hx => deed_words hx names (fun z hz => names z (hg.sm z hz)) (fun z hz => by obtain ⟨e, h, rfl⟩ := List.mem_map.mp hz; exact he.nm e h) (by have := hg.rn; omega)
  rw [lb_t0]
  show lb_R0 _ _ _ _ _ _ _ _ _ _ _ _ _ _ M
  simp only [lb_R0, qSeq, qAsg, qTup, qCons, qNil, qOp, qUn, qC, qCall, qVar, qLst, newL_f, qIfS, qTB, qNext, qRet, qDrop, qFor, qCB, qAug, qSl, qPart, qNoPart, gNameD, gSub_eq, dInt_i, dInt0_i, dAdd_i, dCmpI_i, List.set_cons_zero, List.set_cons_succ, List.getElem?_cons_zero, List.getElem?_cons_succ, List.append_nil, z_l0, z_l1, z_l2, z_l3, z_l4, z_l5, z_l6, z_l7, z_l8, z_l9, z_l19, z_l24, z_l25, true_and]
  refine ⟨ns, 1 + (i : Int), rfl, by omega, by omega, fun g hgb => ?_⟩
  have hb : DL.put M g .bag g = some .bag := put_same
  have hS1 := hS.up ((DL.Sub.refl M).put (o := .bag) hgb)
  generalize DL.put M g .bag = M1 at hb hS1
  clear hS hgb
  show lb_T1 _ _ _ _ _ _ _ _ _ _ _ _ _ _ M1
  rw [lb_t1]
  show lb_R1 _ _ _ _ _ _ _ _ _ _ _ _ _ _ M1
  simp only [lb_R1, qSeq, qAsg, qTup, qCons, qNil, qOp, qUn, qC, qCall, qVar, qLst, newL_f, qIfS, qTB, qNext, qRet, qDrop, qFor, qCB, qAug, qSl, qPart, qNoPart, gNameD, gSub_eq, dInt_i, dInt0_i, dAdd_i, dCmpI_i, List.set_cons_zero, List.set_cons_succ, List.getElem?_cons_zero, List.getElem?_cons_succ, List.append_nil, z_l0, z_l1, z_l2, z_l3, z_l4, z_l5, z_l6, z_l7, z_l8, z_l9, z_l19, z_l24, z_l25, true_and]
  refine ⟨g, ps, rs, ss, es, rfl, hb, hg, he, fun x n w a r hx hf => ?_⟩
  show lb_T2 _ _ _ _ _ _ _ _ _ _ _ _ _ _ M1
  rw [lb_t2]
  show lb_R2 _ _ _ _ _ _ _ _ _ _ _ _ _ _ M1
  have i0 : ∀ M R, dIx (fvD x n w a r) (.int 0) M R = R (.int n) M := fun M R => ix_t rfl
  have i1 : ∀ M R, dIx (fvD x n w a r) (.int 1) M R = R (.int w) M := fun M R => ix_t rfl
  have i2 : ∀ M R, dIx (fvD x n w a r) (.int 2) M R = R (.int a) M := fun M R => ix_t rfl
  have i3 : ∀ M R, dIx (fvD x n w a r) (.int 3) M R = R x.d M := fun M R => ix_t rfl
  have i4 : ∀ M R, dIx (fvD x n w a r) (.int 4) M R = R (.int r) M := fun M R => ix_t rfl
  simp only [lb_R2, qFrzE, qMake, i0, i1, i2, i3, i4, qSeq, qAsg, qTup, qCons, qNil, qOp, qUn, qC, qCall, qVar, qLst, newL_f, qIfS, qTB, qNext, qRet, qDrop, qFor, qCB, qAug, qSl, qPart, qNoPart, gNameD, gSub_eq, dInt_i, dInt0_i, dAdd_i, dCmpI_i, List.set_cons_zero, List.set_cons_succ, List.getElem?_cons_zero, List.getElem?_cons_succ, List.append_nil, z_l0, z_l1, z_l2, z_l3, z_l4, z_l5, z_l6, z_l7, z_l8, z_l9, z_l19, z_l24, z_l25, true_and]
  intro a1 ha1
  refine ⟨a1, _, _, _, _, _, rfl, put_same, rfl, ?_⟩
  simp only [put_put, put_same]
  rw [del_put ha1]
  show lb_T3 _ _ _ _ _ _ _ _ _ _ _ _ _ _ M1
  rw [lb_t3]
  show lb_R3 _ _ _ _ _ _ _ _ _ _ _ _ _ _ M1
  simp only [lb_R3, qFrzE, qMakeKw, i0, i1, i2, i3, i4, qSeq, qAsg, qTup, qCons, qNil, qOp, qUn, qC, qCall, qVar, qLst, newL_f, qIfS, qTB, qNext, qRet, qDrop, qFor, qCB, qAug, qSl, qPart, qNoPart, gNameD, gSub_eq, dInt_i, dInt0_i, dAdd_i, dCmpI_i, List.set_cons_zero, List.set_cons_succ, List.getElem?_cons_zero, List.getElem?_cons_succ, List.append_nil, z_l0, z_l1, z_l2, z_l3, z_l4, z_l5, z_l6, z_l7, z_l8, z_l9, z_l19, z_l24, z_l25, true_and]
  refine ⟨rfl, rfl, fun a2 ha2 => ⟨a2, .int n, .int w, .int a, x.d, .int r, rfl, put_same, rfl, ?_⟩⟩
  simp only [put_put, put_same]
  rw [del_put ha2]
  show lb_T4 _ _ _ _ _ _ _ _ _ _ _ _ _ _ M1
  rw [lb_t4]
  show lb_R4 _ _ _ _ _ _ _ _ _ _ _ _ _ _ M1
  simp only [lb_R4, newL_f, qSeq, qAsg, qTup, qCons, qNil, qOp, qUn, qC, qCall, qVar, qLst, newL_f, qIfS, qTB, qNext, qRet, qDrop, qFor, qCB, qAug, qSl, qPart, qNoPart, gNameD, gSub_eq, dInt_i, dInt0_i, dAdd_i, dCmpI_i, List.set_cons_zero, List.set_cons_succ, List.getElem?_cons_zero, List.getElem?_cons_succ, List.append_nil, z_l0, z_l1, z_l2, z_l3, z_l4, z_l5, z_l6, z_l7, z_l8, z_l9, z_l19, z_l24, z_l25, true_and]
  refine deed_call hb hg he fun y hy => ?_
  refine ⟨g, x, y, n, w, a, r, rfl, hb, hf, fun z n' w' a' r' hz hn hw ha hr => ?_⟩
  have hz2 : ∀ d ∈ D.str z.word :: z.args, WordOk d := by
    rcases hz with rfl | rfl
    · exact words hx
    · exact words hy
  have t1 : ToldOk x n w a r := ⟨by have := hf.n; omega, by have := hf.w; omega, by have := hf.a; omega, by have := hf.r; omega, words hx⟩
  have t2 : ToldOk z n' w' a' r' := ⟨hn, hw, ha, hr, hz2⟩
  clear hz hz2 hn hw ha hr hf hy words names hx
  show lb_T5 _ _ _ _ _ _ _ _ _ _ _ _ _ _ M1
  rw [lb_t5]
  show lb_R5 _ _ _ _ _ _ _ _ _ _ _ _ _ _ M1
  have j0 : ∀ M R, dIx (fvD z n' w' a' r') (.int 0) M R = R (.int n') M := fun M R => ix_t rfl
  have j1 : ∀ M R, dIx (fvD z n' w' a' r') (.int 1) M R = R (.int w') M := fun M R => ix_t rfl
  have j2 : ∀ M R, dIx (fvD z n' w' a' r') (.int 2) M R = R (.int a') M := fun M R => ix_t rfl
  have j3 : ∀ M R, dIx (fvD z n' w' a' r') (.int 3) M R = R z.d M := fun M R => ix_t rfl
  have j4 : ∀ M R, dIx (fvD z n' w' a' r') (.int 4) M R = R (.int r') M := fun M R => ix_t rfl
  simp only [lb_R5, qFrzE, qMakeKw, j0, j1, j2, j3, j4, qSeq, qAsg, qTup, qCons, qNil, qOp, qUn, qC, qCall, qVar, qLst, newL_f, qIfS, qTB, qNext, qRet, qDrop, qFor, qCB, qAug, qSl, qPart, qNoPart, gNameD, gSub_eq, dInt_i, dInt0_i, dAdd_i, dCmpI_i, List.set_cons_zero, List.set_cons_succ, List.getElem?_cons_zero, List.getElem?_cons_succ, List.append_nil, z_l0, z_l1, z_l2, z_l3, z_l4, z_l5, z_l6, z_l7, z_l8, z_l9, z_l19, z_l24, z_l25, true_and]
  refine ⟨rfl, rfl, fun a3 ha3 => ⟨a3, .int n', .int w', .int a', z.d, .int r', rfl, put_same, rfl, ?_⟩⟩
  simp only [put_put, put_same]
  rw [del_put ha3]
  generalize hvv : ((x, n, w, a, r) : F5) = v
  generalize huu : ((z, n', w', a', r') : F5) = u
  have ev : fvD x n w a r = .tup (fl v) := by rw [← hvv]; rfl
  have eu : fvD z n' w' a' r' = .tup (fl u) := by rw [← huu]; rfl
  have T1 : ∀ {M : Mst} {R : DK} {E : DX → Mst → Prop}, (∀ M', DL.Sub M M' → R (.bl true) M') → spTold c [ro c v, .tup (fl v)] M R E := fun h => ⟨x, n, w, a, r, by rw [← hvv]; rfl, t1, h⟩
  have T2 : ∀ {M : Mst} {R : DK} {E : DX → Mst → Prop}, (∀ M', DL.Sub M M' → R (.bl true) M') → spTold c [ro c u, .tup (fl u)] M R E := fun h => ⟨z, n', w', a', r', by rw [← huu]; rfl, t2, h⟩
  have oo : D.ins c ((FRow.zip [D.int n, .int w, .int a, x.d, .int r]).map (·.1)) ((FRow.zip [D.int n, .int w, .int a, x.d, .int r]).map (·.2)) = ro c v := by rw [← hvv]; rfl
  have ou : D.ins c ((FRow.zip [D.int n', .int w', .int a', z.d, .int r']).map (·.1)) ((FRow.zip [D.int n', .int w', .int a', z.d, .int r']).map (·.2)) = ro c u := by rw [← huu]; rfl
  rw [ev, eu, oo, ou]
  clear ev eu oo ou i0 i1 i2 i3 i4 j0 j1 j2 j3 j4 t1 t2 hvv huu ha1 ha2 ha3
  rw [lb_t6]
  show lb_R6 _ _ _ _ _ _ _ _ _ _ _ _ _ _ M1
  simp only [lb_R6, qOr, qNot, qSeq, qAsg, qTup, qCons, qNil, qOp, qUn, qC, qCall, qVar, qLst, newL_f, qIfS, qTB, qNext, qRet, qDrop, qFor, qCB, qAug, qSl, qPart, qNoPart, gNameD, gSub_eq, dInt_i, dInt0_i, dAdd_i, dCmpI_i, List.set_cons_zero, List.set_cons_succ, List.getElem?_cons_zero, List.getElem?_cons_succ, List.append_nil, z_l0, z_l1, z_l2, z_l3, z_l4, z_l5, z_l6, z_l7, z_l8, z_l9, z_l19, z_l24, z_l25, true_and]
  refine T1 fun M2 s2 => ?_
  simp only [Bool.not_true, Bool.false_eq_true, if_false]
  refine T1 fun M3 s3 => ?_
  simp only [Bool.not_true, Bool.false_eq_true, if_false]
  refine T2 fun M4 s4 => ?_
  simp only [Bool.not_true, Bool.false_eq_true, if_false]
  have hS4 := hS1.up ((s2.trans s3).trans s4)
  show lb_T7 _ _ _ _ _ _ _ _ _ _ _ _ _ _ M4
  rw [lb_t7]
  show lb_R7 _ _ _ _ _ _ _ _ _ _ _ _ _ _ M4
  obtain ⟨b0, hb0⟩ : ∃ b : Bool, b = true ↔ fl v = fl u := by
    by_cases e : fl v = fl u
    · exact ⟨true, fun _ => e, fun _ => rfl⟩
    · exact ⟨false, fun h => (by cases h), fun h => absurd h e⟩
  have tb : b0 = true ↔ D.tup (fl v) = .tup (fl u) := hb0.trans ⟨fun h => by rw [h], fun h => by injection h⟩
  simp only [lb_R7, eq_prm (neg := false) (M := M4) (x := .tup (fl v)) (y := .tup (fl u)) res_tup res_tup (fl_prm v) (fl_prm u) (fl_dep v) tb, Bool.false_xor, qSeq, qAsg, qTup, qCons, qNil, qOp, qUn, qC, qCall, qVar, qLst, newL_f, qIfS, qTB, qNext, qRet, qDrop, qFor, qCB, qAug, qSl, qPart, qNoPart, gNameD, gSub_eq, dInt_i, dInt0_i, dAdd_i, dCmpI_i, List.set_cons_zero, List.set_cons_succ, List.getElem?_cons_zero, List.getElem?_cons_succ, List.append_nil, z_l0, z_l1, z_l2, z_l3, z_l4, z_l5, z_l6, z_l7, z_l8, z_l9, z_l19, z_l24, z_l25, true_and]
  show lb_T8 _ _ _ _ _ _ _ _ _ _ _ _ _ _ M4
  rw [lb_t8]
  show lb_R8 _ _ _ _ _ _ _ _ _ _ _ _ _ _ M4
  simp only [lb_R8, qOr, qNot, qSeq, qAsg, qTup, qCons, qNil, qOp, qUn, qC, qCall, qVar, qLst, newL_f, qIfS, qTB, qNext, qRet, qDrop, qFor, qCB, qAug, qSl, qPart, qNoPart, gNameD, gSub_eq, dInt_i, dInt0_i, dAdd_i, dCmpI_i, List.set_cons_zero, List.set_cons_succ, List.getElem?_cons_zero, List.getElem?_cons_succ, List.append_nil, z_l0, z_l1, z_l2, z_l3, z_l4, z_l5, z_l6, z_l7, z_l8, z_l9, z_l19, z_l24, z_l25, true_and]
  refine ⟨⟨_, _, _, _, rfl, rfl⟩, roweq_call fun b1 h1 => ⟨b1, rfl, ?_⟩⟩
  rw [h1.mpr rfl]
  simp only [Bool.false_xor, Bool.not_true, Bool.false_eq_true, if_false]
  refine ⟨⟨_, _, _, _, rfl, rfl⟩, roweq_call fun b1 h1 => ⟨b1, rfl, ?_⟩⟩
  rw [h1.mpr rfl]
  simp only [Bool.true_xor, Bool.not_true, Bool.false_eq_true, if_false]
  refine ⟨⟨_, _, _, _, rfl, rfl⟩, roweq_call fun b1 h1 => ⟨b1, rfl, ?_⟩⟩
  have e1 : b1 = b0 := by
    have := h1.trans hb0.symm
    cases b1 <;> cases b0 <;> simp_all
  rw [e1]
  simp only [Bool.false_xor, z_ne_bl, decide_true, Bool.not_true, Bool.false_eq_true, if_false]
  refine ⟨⟨_, _, _, _, rfl, rfl⟩, roweq_call fun b2 h2 => ⟨b2, rfl, ?_⟩⟩
  have e2 : b2 = b0 := by
    have : b2 = true ↔ b0 = true := h2.trans ⟨fun h => hb0.mpr h.symm, fun h => (hb0.mp h).symm⟩
    cases b2 <;> cases b0 <;> simp_all
  rw [e2]
  simp only [Bool.false_xor, z_ne_bl, decide_true, Bool.not_true, Bool.false_eq_true, if_false]
  show lb_T9 _ _ _ _ _ _ _ _ _ _ _ _ _ _ M4
  rw [lb_t9]
  show lb_R9 _ _ _ _ _ _ _ _ _ _ _ _ _ _ M4
  simp only [lb_R9, qOr, qSeq, qAsg, qTup, qCons, qNil, qOp, qUn, qC, qCall, qVar, qLst, newL_f, qIfS, qTB, qNext, qRet, qDrop, qFor, qCB, qAug, qSl, qPart, qNoPart, gNameD, gSub_eq, dInt_i, dInt0_i, dAdd_i, dCmpI_i, List.set_cons_zero, List.set_cons_succ, List.getElem?_cons_zero, List.getElem?_cons_succ, List.append_nil, z_l0, z_l1, z_l2, z_l3, z_l4, z_l5, z_l6, z_l7, z_l8, z_l9, z_l19, z_l24, z_l25, true_and]
  refine inOR_ok (res_r hS4.rw) fun b3 h3 => ?_
  refine in_fives (res_r hS4.fv) fun b4 h4 => ?_
  have e3 : b3 = b4 := by
    have := h3.trans h4.symm
    cases b3 <;> cases b4 <;> simp_all
  rw [e3]
  simp only [z_ne_bl, decide_true, Bool.not_true, Bool.false_eq_true, if_false, newL_f]
  have le := hS4.le
  have add1 : ∀ R, dAdd false (.ref q4) (.lst [ro c v]) M4 R = (l.length + 1 ≤ 100000 ∧ R (.lst ((l ++ [v]).map (ro c))) M4) := fun R => by
    unfold dAdd
    simp only [res_r hS4.rw, res_lst, newL_f, List.map_append, List.map_singleton, List.length_map, List.length_singleton]
  simp only [add1]
  refine ⟨by omega, by omega, _, _, res_lst, res_lst, fun h => absurd rfl h, fun _ => eqLD_ok res_lst res_lst ?_ _⟩
  simp only [Bool.not_true, Bool.false_eq_true, if_false]
  show lb_T10 _ _ _ _ _ _ _ _ _ _ _ _ _ _ M4
  rw [lb_t10]
  show lb_R10 _ _ _ _ _ _ _ _ _ _ _ _ _ _ M4
  simp only [lb_R10, qBM, qSeq, qAsg, qTup, qCons, qNil, qOp, qUn, qC, qCall, qVar, qLst, newL_f, qIfS, qTB, qNext, qRet, qDrop, qFor, qCB, qAug, qSl, qPart, qNoPart, gNameD, gSub_eq, dInt_i, dInt0_i, dAdd_i, dCmpI_i, List.set_cons_zero, List.set_cons_succ, List.getElem?_cons_zero, List.getElem?_cons_succ, List.append_nil, z_l0, z_l1, z_l2, z_l3, z_l4, z_l5, z_l6, z_l7, z_l8, z_l9, z_l19, z_l24, z_l25, true_and]
  unfold mApp
  simp only [hS4.rw]
  refine ⟨by rw [res_r hS4.rw]; rfl, by simp; omega, ?_⟩
  simp only [lb_T11, lb_R11, qBM, qSeq, qAsg, qTup, qCons, qNil, qOp, qUn, qC, qCall, qVar, qLst, newL_f, qIfS, qTB, qNext, qRet, qDrop, qFor, qCB, qAug, qSl, qPart, qNoPart, gNameD, gSub_eq, dInt_i, dInt0_i, dAdd_i, dCmpI_i, List.set_cons_zero, List.set_cons_succ, List.getElem?_cons_zero, List.getElem?_cons_succ, List.append_nil, z_l0, z_l1, z_l2, z_l3, z_l4, z_l5, z_l6, z_l7, z_l8, z_l9, z_l19, z_l24, z_l25, true_and]
  have f5 : DL.put M4 q4 (.lst (l.map (ro c) ++ [ro c v])) q5 = some (.lst (l.map fun v => .tup (fl v))) := by rw [put_ne hS4.ne.symm]; exact hS4.fv
  refine ⟨by rw [res_r f5]; rfl, ?_⟩
  unfold mApp
  simp only [f5]
  refine ⟨by simp; omega, next _ _ _ _ _ _ _ (l ++ [v]) _ ⟨by rw [put_ne hS4.ne, put_same]; simp, by rw [put_same]; simp, hS4.ne, by simp; omega⟩⟩
theorem law_ok (c : Addr) (ds : List D) (M : Mst) (Q : DK) (Ed : DX → Mst → Prop) (h : upSp spLaw ds M Q Ed) : q_law c (spRowEq c) (spRowInit c) (spRowStr c) spBag spHDeed spHEngines spLFive spHGround (spTold c) spLOther (fun x _ M => Ed x M) (retE Q) (startD N_law ds) M := by
  obtain ⟨Q0, E0, ⟨ns, rfl, hl, _, k0⟩, kq, _⟩ := h
  have k : ∀ M', Q (.bl true) M' := fun M' => kq _ _ _ (DL.Sub.refl _) (k0 M')
  clear kq k0
  rw [lw_cut, lw_t0]
  show lw_R0 _ _ _ _ _ _ _ _ _ _ _ _ _ [some (.scr ns), none, none, none, none, none, none, none, none, none, none, none, none, none] M
  simp only [lw_R0, qSeq, qAsg, qTup, qCons, qNil, qOp, qUn, qC, qCall, qVar, qLst, newL_f, qIfS, qTB, qNext, qRet, qDrop, qFor, qCB, qAug, qSl, qPart, qNoPart, gNameD, gSub_eq, dInt_i, dInt0_i, dAdd_i, dCmpI_i, List.set_cons_zero, List.set_cons_succ, List.getElem?_cons_zero, List.getElem?_cons_succ, List.append_nil, z_l0, z_l1, z_l2, z_l3, z_l4, z_l5, z_l6, z_l7, z_l8, z_l9, z_l19, z_l24, z_l25, true_and]
  refine ⟨ns, 0, rfl, by decide, by decide, fun g0 hg0 => ?_⟩
  have hb0 : DL.put M g0 .bag g0 = some .bag := put_same
  generalize DL.put M g0 .bag = M1 at hb0
  show lw_T1 _ _ _ _ _ _ _ _ _ _ _ _ _ _ M1
  rw [lw_t1]
  show lw_R1 _ _ _ _ _ _ _ _ _ _ _ _ _ _ M1
  simp only [lw_R1, qSeq, qAsg, qTup, qCons, qNil, qOp, qUn, qC, qCall, qVar, qLst, newL_f, qIfS, qTB, qNext, qRet, qDrop, qFor, qCB, qAug, qSl, qPart, qNoPart, gNameD, gSub_eq, dInt_i, dInt0_i, dAdd_i, dCmpI_i, List.set_cons_zero, List.set_cons_succ, List.getElem?_cons_zero, List.getElem?_cons_succ, List.append_nil, z_l0, z_l1, z_l2, z_l3, z_l4, z_l5, z_l6, z_l7, z_l8, z_l9, z_l19, z_l24, z_l25, true_and]
  refine ⟨g0, rfl, hb0, fun ps rs ss hg => ?_⟩
  show lw_T2 _ _ _ _ _ _ _ _ _ _ _ _ _ _ M1
  rw [lw_t2]
  show lw_R2 _ _ _ _ _ _ _ _ _ _ _ _ _ _ M1
  simp only [lw_R2, grT, z_ix_t2, qSeq, qAsg, qTup, qCons, qNil, qOp, qUn, qC, qCall, qVar, qLst, newL_f, qIfS, qTB, qNext, qRet, qDrop, qFor, qCB, qAug, qSl, qPart, qNoPart, gNameD, gSub_eq, dInt_i, dInt0_i, dAdd_i, dCmpI_i, List.set_cons_zero, List.set_cons_succ, List.getElem?_cons_zero, List.getElem?_cons_succ, List.append_nil, z_l0, z_l1, z_l2, z_l3, z_l4, z_l5, z_l6, z_l7, z_l8, z_l9, z_l19, z_l24, z_l25, true_and]
  refine ⟨g0, ss, rfl, hb0, hg.sn.1, hg.sn.2, fun es he => ?_⟩
  show lw_T3 _ _ _ _ _ _ _ _ _ _ _ _ _ _ M1
  rw [lw_t3]
  show lw_R3 _ _ _ _ _ _ _ _ _ _ _ _ _ _ M1
  simp only [lw_R3, newL_t, gTupD, gConsD, gNilD, res_tup, List.length_cons, List.length_nil, true_and, qSeq, qAsg, qTup, qCons, qNil, qOp, qUn, qC, qCall, qVar, qLst, newL_f, qIfS, qTB, qNext, qRet, qDrop, qFor, qCB, qAug, qSl, qPart, qNoPart, gNameD, gSub_eq, dInt_i, dInt0_i, dAdd_i, dCmpI_i, List.set_cons_zero, List.set_cons_succ, List.getElem?_cons_zero, List.getElem?_cons_succ, List.append_nil, z_l0, z_l1, z_l2, z_l3, z_l4, z_l5, z_l6, z_l7, z_l8, z_l9, z_l19, z_l24, z_l25, true_and]
  refine ⟨Nat.zero_le _, fun q4 h4 => ⟨Nat.zero_le _, fun q5 h5 => ⟨Nat.le_of_ble_eq_true rfl, ?_⟩⟩⟩
  have n45 : q4 ≠ q5 := fun e => by rw [← e, put_same] at h5; cases h5
  have hS0 : St24 c (DL.put (DL.put M1 q4 (.lst [])) q5 (.lst [])) q4 q5 [] 0 := ⟨by rw [put_ne n45, put_same]; rfl, put_same, n45, Nat.le_refl _⟩
  show lw_T4 _ _ _ _ _ _ _ _ _ _ _ _ _ _ _
  rw [lw_t4]
  show lw_R4 _ _ _ _ _ _ _ _ _ _ _ _ _ _ _
  rw [lw_for4]
  simp only [qFor, qiRng1, dMin2, dMax2, len_s, qSeq, qAsg, qTup, qCons, qNil, qOp, qUn, qC, qCall, qVar, qLst, newL_f, qIfS, qTB, qNext, qRet, qDrop, qFor, qCB, qAug, qSl, qPart, qNoPart, gNameD, gSub_eq, dInt_i, dInt0_i, dAdd_i, dCmpI_i, List.set_cons_zero, List.set_cons_succ, List.getElem?_cons_zero, List.getElem?_cons_succ, List.append_nil, z_l0, z_l1, z_l2, z_l3, z_l4, z_l5, z_l6, z_l7, z_l8, z_l9, z_l19, z_l24, z_l25, true_and]
  generalize hv : (if (if (ns.length : Int) - 1 < 8 then (ns.length : Int) - 1 else 8) > 3 then if (ns.length : Int) - 1 < 8 then (ns.length : Int) - 1 else 8 else 3) = v
  have hv0 : 0 ≤ v ∧ v ≤ 8 := by rw [← hv]; split <;> split <;> omega
  refine ⟨by omega, by omega, ?_⟩
  refine loopL_inv (n := v.toNat) (fun i p M' => ∃ x1 x6 x7 x8 x9 x10 x11 x12 l, p = [some (.scr ns), x1, some (grT ps rs ss), some (.tup (es.map egD)), some (.ref q4), some (.ref q5), x6, x7, x8, x9, x10, x11, x12, none] ∧ St24 c M' q4 q5 l i) (by rw [rangeD_len]) (fun i d p M' R hd hI next => ?_) (fun p M' hI => ?_) ⟨_, _, _, _, _, _, _, _, _, rfl, hS0⟩
  · obtain ⟨x1, x6, x7, x8, x9, x10, x11, x12, l, rfl, hS⟩ := hI
    obtain ⟨hi, rfl⟩ := range_at hd
    refine ⟨trivial, ?_⟩
    simp only [gNameD, List.set_cons_zero, List.set_cons_succ]
    exact lbody_ok (by omega) hg he hS (fun x1 x7 x8 x9 x10 x11 x12 l M2 h => next _ _ ⟨_, _, _, _, _, _, _, _, _, rfl, h⟩)
  · obtain ⟨x1, x6, x7, x8, x9, x10, x11, x12, l, rfl, hS⟩ := hI
    refine ⟨trivial, ?_⟩
    show lw_T5 _ _ _ _ _ _ _ _ _ _ _ _ _ _ M'
    rw [lw_t5]
    show lw_R5 _ _ _ _ _ _ _ _ _ _ _ _ _ _ M'
    simp only [lw_R5, qFrzE, qMake, qSeq, qAsg, qTup, qCons, qNil, qOp, qUn, qC, qCall, qVar, qLst, newL_f, qIfS, qTB, qNext, qRet, qDrop, qFor, qCB, qAug, qSl, qPart, qNoPart, gNameD, gSub_eq, dInt_i, dInt0_i, dAdd_i, dCmpI_i, List.set_cons_zero, List.set_cons_succ, List.getElem?_cons_zero, List.getElem?_cons_succ, List.append_nil, z_l0, z_l1, z_l2, z_l3, z_l4, z_l5, z_l6, z_l7, z_l8, z_l9, z_l19, z_l24, z_l25, true_and]
    intro a ha
    refine ⟨a, .int 1, .int 5, .int 4, .tup [.str (Str.ofString "nothing")], .int 0, rfl, put_same, rfl, ?_⟩
    simp only [put_put, put_same]
    rw [del_put ha]
    show lw_T6 _ _ _ _ _ _ _ _ _ _ _ _ _ _ M'
    rw [lw_t6]
    show lw_R6 _ _ _ _ _ _ _ _ _ _ _ _ _ [some (.scr ns), x1, some (grT ps rs ss), some (.tup (es.map egD)), some (.ref q4), some (.ref q5), x6, x7, x8, x9, x10, x11, x12, some (ro c (.nothing, 1, 5, 4, 0))] M'
    have lr : (ro c (.nothing, 1, 5, 4, 0)) = .ins c FRow [.int 1, .int 5, .int 4, .tup [.str (Str.ofString "nothing")], .int 0] := rfl
    simp only [lw_R6, qOr, qFld, lr, insD_i, List.take_length, z_ne_int, decide_true, Bool.not_true, Bool.false_eq_true, if_false, qSeq, qAsg, qTup, qCons, qNil, qOp, qUn, qC, qCall, qVar, qLst, newL_f, qIfS, qTB, qNext, qRet, qDrop, qFor, qCB, qAug, qSl, qPart, qNoPart, gNameD, gSub_eq, dInt_i, dInt0_i, dAdd_i, dCmpI_i, List.set_cons_zero, List.set_cons_succ, List.getElem?_cons_zero, List.getElem?_cons_succ, List.append_nil, z_l0, z_l1, z_l2, z_l3, z_l4, z_l5, z_l6, z_l7, z_l8, z_l9, z_l19, z_l24, z_l25, true_and]
    have hT : RowTOk 1 5 4 [.str (Str.ofString "nothing")] 0 := ⟨by decide, by decide, by decide, fun d hd => by rw [List.mem_singleton.mp hd]; exact .inl ⟨_, rfl, tx_of (by decide +kernel)⟩, by decide, by decide⟩
    refine ⟨⟨_, _, rfl⟩, 1, 5, 4, _, 0, rfl, hT, fun M2 s2 => ⟨trivial, ?_⟩⟩
    have hstr : decide (rowT 1 5 4 [.str (Str.ofString "nothing")] 0 = Str.ofString "1 0 00:05 0 00:04 nothing") = true := by decide +kernel
    simp only [z_ne_str, hstr, Bool.not_true, Bool.false_eq_true, if_false]
    have hS2 := hS.up s2
    simp only [lw_T7, lw_R7, qLc, qiAny, qSeq, qAsg, qTup, qCons, qNil, qOp, qUn, qC, qCall, qVar, qLst, newL_f, qIfS, qTB, qNext, qRet, qDrop, qFor, qCB, qAug, qSl, qPart, qNoPart, gNameD, gSub_eq, dInt_i, dInt0_i, dAdd_i, dCmpI_i, List.set_cons_zero, List.set_cons_succ, List.getElem?_cons_zero, List.getElem?_cons_succ, List.append_nil, z_l0, z_l1, z_l2, z_l3, z_l4, z_l5, z_l6, z_l7, z_l8, z_l9, z_l19, z_l24, z_l25, true_and]
    rw [hS2.rw]
    intro a2 ha2
    have n4 : q4 ≠ a2 := ne_of_some hS2.rw ha2
    refine compL_map ha2 (fun _ => some (.bl true)) (fun acc => by show DL.put _ a2 _ q4 = _; rw [put_ne n4]; exact hS2.rw) (by have := hS2.le; simp; omega) (fun d hd acc R hR => ?_) ?_
    · obtain ⟨v, hv, rfl⟩ := List.mem_map.mp hd
      simp only [wipeD, qYes, if_true, dRev, qSeq, qAsg, qTup, qCons, qNil, qOp, qUn, qC, qCall, qVar, qLst, newL_f, qIfS, qTB, qNext, qRet, qDrop, qFor, qCB, qAug, qSl, qPart, qNoPart, gNameD, gSub_eq, dInt_i, dInt0_i, dAdd_i, dCmpI_i, List.set_cons_zero, List.set_cons_succ, List.getElem?_cons_zero, List.getElem?_cons_succ, List.append_nil, z_l0, z_l1, z_l2, z_l3, z_l4, z_l5, z_l6, z_l7, z_l8, z_l9, z_l19, z_l24, z_l25, true_and]
      have e4 : DL.res (DL.put M2 a2 (.lst acc)) (.ref q4) = .lst (l.map (ro c)) := res_r (by rw [put_ne n4]; exact hS2.rw)
      rw [e4]
      simp only [newL_f]
      rw [← List.map_reverse]
      refine inOR_ok res_lst fun b hb => ?_
      rw [hb.mpr ⟨v, List.mem_reverse.mpr hv, rfl⟩]
      exact hR
    · simp only [Bool.false_eq_true, if_false]
      rw [all_true]
      exact k M2
end K24
def PySem.W.Fast.tw478673532072594819 : Unit := ()
def PySem.W.Fast.tw14386139075326208839 : Unit := ()
def PySem.W.Fast.tw10567971748401121550 : Unit := ()
def PySem.W.Fast.tw16369316423451095697 : Unit := ()
def PySem.W.Fast.tw684781240357903986 : Unit := ()
def PySem.W.Fast.tw4620788987144789179 : Unit := ()
def PySem.W.Fast.tw300986096776640063 : Unit := ()
namespace K24
open PySem L2 DL Tx20 Tx21
abbrev LEVEL : Nat := 7
def spVoid : DSp := fun _ _ _ _ => False
section
variable {P : Program} {w : World} {K : PySem.W.Frag} {mg : Str → Option Value}
theorem ok_law (T : Tx w K mg) (base : Heap) : FnOk P w K mg base (L2.CX P w) LEVEL T.f_law.f T.f_law.fd ["_law_script"] (toSp K spLaw) := by
  have G_Row___init__ := dv_Row___init__ (P := P) (base := base) (k := 0) T (p := spRowInit T.c_Row.C) (fun _ _ _ _ ⟨_, _, _, _, _, _, e, _⟩ => by rw [e]; rfl) (rowinit_ok _)
  have G_Row_five := dv_Row_five (P := P) (base := base) (k := 0) T (p := spFive T.c_Row.C) (fun _ _ _ _ ⟨_, e, _⟩ => by rw [e]; rfl) (five_ok _)
  have G_Row___eq__ := dv_Row___eq__ (P := P) (base := base) (k := 1) T (G_Row_five.mono (by decide)) (p := spRowEq T.c_Row.C) (fun _ _ _ _ ⟨_, _, e, _⟩ => by rw [e]; rfl) (roweq_ok _)
  have G_shown := dv_shown (P := P) (base := base) (k := 0) T (p := spShown) (fun _ _ _ _ ⟨_, e, _⟩ => by rw [e]; rfl) shown_ok
  have G_text_of := dv_text_of (P := P) (base := base) (k := 1) T (G_shown.mono (by decide)) (p := spText T.c_Row.C) (fun _ _ _ _ ⟨_, _, _, _, _, e, _⟩ => by rw [e]; rfl) (text_ok _)
  have G_Row___str__ := dv_Row___str__ (P := P) (base := base) (k := 2) T (G_text_of.mono (by decide)) (p := spRowStr T.c_Row.C) (fun _ _ _ _ ⟨_, _, _, _, _, e, _⟩ => by rw [e]; rfl) (rowstr_ok _)
  have G_Row___repr__ := dv_Row___repr__ (P := P) (base := base) (k := 0) T (p := spRowRepr T.c_Row.C) (fun _ _ _ _ ⟨_, _, e, _⟩ => by rw [e]; rfl) (rowrepr_ok _)
  have G__law_bag := (dv__law_bag (P := P) (base := base) (k := 0) T (p := spBagL) (fun _ _ _ _ ⟨_, _, e, _⟩ => by rw [e]; rfl) bag2_ok).imp fun _ _ _ _ h => imp_bag h
  have G__law_take := (dv__law_take (P := P) (base := base) (k := 0) T (p := spTakeL) (fun _ _ _ _ ⟨_, _, _, _, e, _⟩ => by rw [e]; rfl) take_ok).imp fun _ _ _ _ h => imp_take h
  have G__law_names := dv__law_names (P := P) (base := base) (k := 1) T (G__law_take.mono (by decide)) (p := spHNames) (fun _ _ _ _ ⟨_, _, e, _⟩ => by rw [e]; rfl) hnames_ok
  have G__law_kind := dv__law_kind (P := P) (base := base) (k := 1) T (G__law_take.mono (by decide)) (p := spHKind) (fun _ _ _ _ ⟨_, e, _⟩ => by rw [e]; rfl) hkind_ok
  have G__law_ground := dv__law_ground (P := P) (base := base) (k := 2) T (G__law_names.mono (by decide)) (G__law_take.mono (by decide)) (p := spHGround) (fun _ _ _ _ ⟨_, e, _⟩ => by rw [e]; rfl) hground_ok
  have G__law_engines := dv__law_engines (P := P) (base := base) (k := 2) T (G__law_names.mono (by decide)) (G__law_take.mono (by decide)) (p := spHEngines) (fun _ _ _ _ ⟨_, _, e, _⟩ => by rw [e]; rfl) hengines_ok
  have G__law_deed := dv__law_deed (P := P) (base := base) (k := 2) T (G__law_kind.mono (by decide)) (G__law_take.mono (by decide)) (p := spHDeed) (fun _ _ _ _ ⟨_, _, _, _, _, _, e, _⟩ => by rw [e]; rfl) hdeed_ok
  have G__law_like : FnOk P w K mg base (L2.CX P w) 1 T.f__law_like.f T.f__law_like.fd ["_law_told", "_law_due"] (toSp K spVoid) := fn_void fun _ _ _ _ h => h
  have G__law_like := dv__law_like (P := P) (base := base) (k := 1) T (G__law_like.mono (by decide)) (p := spLike 1) (fun _ _ _ _ ⟨_, e, _⟩ => by rw [e]; rfl) (like_ok 0 spVoid fun _ _ _ _ h _ => absurd h.d (Nat.not_lt_zero _))
  have G__law_like := dv__law_like (P := P) (base := base) (k := 2) T (G__law_like.mono (by decide)) (p := spLike 2) (fun _ _ _ _ ⟨_, e, _⟩ => by rw [e]; rfl) (like_ok 1 (spLike 1) fun d _ _ _ h k => ⟨d, rfl, h, k⟩)
  have G__law_like := dv__law_like (P := P) (base := base) (k := 3) T (G__law_like.mono (by decide)) (p := spLike 3) (fun _ _ _ _ ⟨_, e, _⟩ => by rw [e]; rfl) (like_ok 2 (spLike 2) fun d _ _ _ h k => ⟨d, rfl, h, k⟩)
  have G__law_shown := dv__law_shown (P := P) (base := base) (k := 0) T (p := spShown) (fun _ _ _ _ ⟨_, e, _⟩ => by rw [e]; rfl) lshown_ok
  have G__law_text := dv__law_text (P := P) (base := base) (k := 1) T (G__law_shown.mono (by decide)) (p := spLText) (fun _ _ _ _ ⟨_, _, _, _, _, e, _⟩ => by rw [e]; rfl) ltext_ok
  have G__law_five := dv__law_five (P := P) (base := base) (k := 3) T (G__law_deed.mono (by decide)) (G__law_take.mono (by decide)) (p := spLFive) (fun _ _ _ _ ⟨_, _, _, _, _, e, _⟩ => by rw [e]; rfl) lfive_ok
  have G__law_other := dv__law_other (P := P) (base := base) (k := 1) T (G__law_take.mono (by decide)) (p := spLOther) (fun _ _ _ _ ⟨_, _, _, _, _, _, _, e, _⟩ => by rw [e]; rfl) lother_ok
  have G__law_is_told := dv__law_is_told (P := P) (base := base) (k := 5) (ke_Row := 2) (kn_Row_repr := 1) (kn_Row_str := 3) T (by decide) (by decide) (by decide) G_Row___eq__ G_Row___repr__ G_Row___str__ (G__law_like.mono (by decide)) (G__law_text.mono (by decide)) (p := spTold T.c_Row.C) (fun _ _ _ _ ⟨_, _, _, _, _, e, _⟩ => by rw [e]; rfl) (told_ok _)
  exact dv_law (P := P) (base := base) (k := 6) (ki_Row := 1) (ke_Row := 2) (kn_Row_str := 3) T (by decide) (by decide) (by decide) G_Row___eq__ G_Row___init__ G_Row___str__ (G__law_bag.mono (by decide)) (G__law_deed.mono (by decide)) (G__law_engines.mono (by decide)) (G__law_five.mono (by decide)) (G__law_ground.mono (by decide)) (G__law_is_told.mono (by decide)) (G__law_other.mono (by decide)) (p := spLaw) (fun _ _ _ _ ⟨_, e, _⟩ => by rw [e]; rfl) (law_ok T.c_Row.C)
end
end K24
open PySem PySem.W PyProof.Rows in
set_option maxRecDepth 100000 in
set_option maxHeartbeats 0 in
theorem PySem.Challenge.cw_whistleboard_k24_rows_holds : PySem.Challenge.rw_whistleboard_k24_rows.Holds := by
  w_on; o_law; k_head; (case hw => w_witness2)
  k_fill
  refine DL.walk (l := PySem.Challenge.rw_whistleboard_k24_rows) (k := K24.LEVEL) (by decide) rfl rfl (fun w h Y => by first | exact PySem.W.kIn_of Y | exact PySem.W.km_in_of Y) ?F
  case F =>
    intro w mg fa h KX G hmg
    refine' K24.all_mk KX G hmg ?oa0 ?qne0 ?qob0 ?opg0 ?ohd0 ?opo0 ?osa0 ?on0_0 ?on1_0 ?on2_0 ?on3_0 ?on4_0 ?omk0 ?okc0 ?oha0 ?ohn0 ?oht0 ?ohm0 ?kio0 ?ki0o0 ?ki1o0 ?ki2o0 ?ki3o0 ?ki4o0 ?ki5o0 ?ki6o0 ?a0 ?l0 ?c0 ?k0 ?a1 ?l1 ?c1 ?k1 ?a2 ?b2 ?l2 ?c2 ?k2 ?dl2 ?a3 ?b3 ?l3 ?c3 ?k3 ?a4 ?b4 ?l4 ?c4 ?k4 ?a5 ?b5 ?l5 ?c5 ?k5 ?a6 ?b6 ?l6 ?c6 ?k6 ?a7 ?l7 ?c7 ?k7 ?a8 ?l8 ?c8 ?k8 ?a9 ?l9 ?c9 ?k9 ?a10 ?l10 ?c10 ?k10 ?a11 ?l11 ?c11 ?k11 ?a12 ?l12 ?c12 ?k12 ?a13 ?l13 ?c13 ?k13 ?a14 ?l14 ?c14 ?k14 ?a15 ?l15 ?c15 ?k15 ?a16 ?l16 ?c16 ?k16 ?a17 ?l17 ?c17 ?k17 ?a18 ?l18 ?c18 ?k18 ?a19 ?l19 ?c19 ?k19 ?a20 ?l20 ?c20 ?k20 ?z0 ?z1 ?z2 ?z3 ?z4 ?z5 ?z6 ?z7 ?z8 ?z9 ?z10 ?z11 ?z12 ?z13 ?z14 ?z15 ?lit0 ?lit1 (fun T base => K24.ok_law T base)
    (case oa0 => k_is)
    (case qne0 => k_is)
    (case qob0 => k_is)
    (case opg0 => k_is)
    (case ohd0 => k_is)
    (case opo0 => k_is)
    (case osa0 => k_is)
    (case on0_0 => k_is)
    (case on1_0 => k_is)
    (case on2_0 => k_is)
    (case on3_0 => k_is)
    (case on4_0 => k_is)
    (case omk0 => k_is)
    (case okc0 => k_is)
    (case oha0 => k_is)
    (case ohn0 => k_is)
    (case oht0 => k_is)
    (case ohm0 => k_is)
    (case kio0 => kit_is)
    (case ki0o0 => kit_is)
    (case ki1o0 => kit_is)
    (case ki2o0 => kit_is)
    (case ki3o0 => kit_is)
    (case ki4o0 => kit_is)
    (case ki5o0 => kit_is)
    (case ki6o0 => kit_is)
    (case a0 => k_is)
    (case l0 => k_is)
    (case c0 => k_is)
    (case k0 => k_is)
    (case a1 => k_is)
    (case l1 => k_is)
    (case c1 => k_is)
    (case k1 => k_is)
    (case a2 => k_is)
    (case b2 => k_is)
    (case l2 => k_is)
    (case c2 => k_is)
    (case k2 => k_is)
    (case dl2 => k_is)
    (case a3 => k_is)
    (case b3 => k_is)
    (case l3 => k_is)
    (case c3 => k_is)
    (case k3 => k_is)
    (case a4 => k_is)
    (case b4 => k_is)
    (case l4 => k_is)
    (case c4 => k_is)
    (case k4 => k_is)
    (case a5 => k_is)
    (case b5 => k_is)
    (case l5 => k_is)
    (case c5 => k_is)
    (case k5 => k_is)
    (case a6 => k_is)
    (case b6 => k_is)
    (case l6 => k_is)
    (case c6 => k_is)
    (case k6 => k_is)
    (case a7 => k_is)
    (case l7 => k_is)
    (case c7 => k_is)
    (case k7 => k_is)
    (case a8 => k_is)
    (case l8 => k_is)
    (case c8 => k_is)
    (case k8 => k_is)
    (case a9 => k_is)
    (case l9 => k_is)
    (case c9 => k_is)
    (case k9 => k_is)
    (case a10 => k_is)
    (case l10 => k_is)
    (case c10 => k_is)
    (case k10 => k_is)
    (case a11 => k_is)
    (case l11 => k_is)
    (case c11 => k_is)
    (case k11 => k_is)
    (case a12 => k_is)
    (case l12 => k_is)
    (case c12 => k_is)
    (case k12 => k_is)
    (case a13 => k_is)
    (case l13 => k_is)
    (case c13 => k_is)
    (case k13 => k_is)
    (case a14 => k_is)
    (case l14 => k_is)
    (case c14 => k_is)
    (case k14 => k_is)
    (case a15 => k_is)
    (case l15 => k_is)
    (case c15 => k_is)
    (case k15 => k_is)
    (case a16 => k_is)
    (case l16 => k_is)
    (case c16 => k_is)
    (case k16 => k_is)
    (case a17 => k_is)
    (case l17 => k_is)
    (case c17 => k_is)
    (case k17 => k_is)
    (case a18 => k_is)
    (case l18 => k_is)
    (case c18 => k_is)
    (case k18 => k_is)
    (case a19 => k_is)
    (case l19 => k_is)
    (case c19 => k_is)
    (case k19 => k_is)
    (case a20 => k_is)
    (case l20 => k_is)
    (case c20 => k_is)
    (case k20 => k_is)
    (case z0 => k_is)
    (case z1 => k_is)
    (case z2 => k_is)
    (case z3 => k_is)
    (case z4 => k_is)
    (case z5 => k_is)
    (case z6 => k_is)
    (case z7 => k_is)
    (case z8 => k_is)
    (case z9 => k_is)
    (case z10 => k_is)
    (case z11 => k_is)
    (case z12 => k_is)
    (case z13 => k_is)
    (case z14 => k_is)
    (case z15 => k_is)
    (case lit0 => k_is)
    (case lit1 => k_is)
#print axioms PySem.Challenge.cw_whistleboard_k24_rows_holds
