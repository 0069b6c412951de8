import PyProof.Rows.All
import Wide.All
import OpenK.AllK
import Wide.FinOn
import PyProof.EqAt
import PyProof.EqKinds
import PyProof.TupleCall
import HandS.ForMost
import HandS.ForExc
import HandS.CallSlots
import HandS.TupAny
import HandS.Style
import HandS.IsInst
import HandS.Codes
import KE.SortData
import HandS.SetKeys
import HandS.SetFor
import HandS.Defaults
import HandS.SortInts
import HandS.Strs
import KE.KDictPairs
import PySem.Challenge.RW_whistleboard_k11_paired
set_option Elab.async false
set_option linter.all false
set_option maxRecDepth 100000
set_option maxHeartbeats 0
/-! DLa: values as trees of data, the mutable objects apart; what stands in the heap for them. -/
namespace DL
open PySem L2

/-- data: None, truths, numbers, texts, tuples, lists that are changed no more, dicts that are changed no more, instances that are changed no more; ref: an object that may change, or one of the program's own -/
inductive D where
  | non | bl (b : Bool) | int (i : Int) | str (x : Str) | ty (n : String) | ref (a : Addr)
  | tup (xs : List D) | lst (xs : List D)
  | ktp (xs : List D)
  | scr (ns : List Int)
  | dct (ks : List Key) (xs : List D)
  | ins (C : Addr) (ns : List Str) (xs : List D)

/-- objects that may change -/
inductive MO where
  | lst (xs : List D)
  | dK (kvs : List (Key × D))
  | dT (kvs : List (List Key × D))
  | ins (C : Addr) (fs : List (Str × D))
  | lk (ho : HO) (kvs : List (Key × D))
  | lkT (ho : HO) (kvs : List (List Key × D))
  | bag
abbrev Mst := Addr → Option MO

/-- a key that is an int, or a text as they are -/
def kOk : Key → Prop
  | .inl _ => True
  | .inr x => x.length ≤ sizeLine ∧ PyData.strOk x = true
mutual
def Rep (K : PySem.W.Frag) (G : Hp) : D → V → Prop
  | .non, v => v = .non
  | .bl b, v => v = .bl b
  | .int i, v => v = .int i
  | .str x, v => v = .str x ∧ x.length ≤ sizeLine ∧ PyData.strOk x = true
  | .ty n, v => v = .ty n
  | .ref a, v => v = .ref a
  | .tup ds, v => ∃ a vs, v = .ref a ∧ G a = some (.tup vs) ∧ RepL K G ds vs ∧ vs.length ≤ sizeLine
  | .ktp ds, v => ∃ a vs, v = .ref a ∧ SqT K G a vs ∧ RepL K G ds vs ∧ vs.length ≤ sizeLine
  | .lst ds, v => ∃ a vs, v = .ref a ∧ G a = some (.lst vs) ∧ RepL K G ds vs ∧ vs.length ≤ sizeLine
  | .scr ns, v => ∃ a, v = .ref a ∧ SqL K G a (ns.map V.int) ∧ ns.length ≤ 63
  | .dct ks ds, v => ∃ a kvs, v = .ref a ∧ Rd G a (.dK kvs) ∧ kvs.map (·.1) = ks ∧ RepL K G ds (kvs.map (·.2)) ∧ kvs.length ≤ sizeLine ∧ ∀ k ∈ ks, kOk k
  | .ins C ns ds, v => ∃ a dx fs, v = .ref a ∧ G a = some (.ins C dx fs) ∧ fs.map (·.1) = ns ∧ RepL K G ds (fs.map (·.2))
def RepL (K : PySem.W.Frag) (G : Hp) : List D → List V → Prop
  | [], vs => vs = []
  | d :: ds, vs => ∃ v r, vs = v :: r ∧ Rep K G d v ∧ RepL K G ds r
end

theorem same_rd {H H' : Hp} {a : Addr} {u : HO} (e : Same H H') (h : Rd H a u) : Rd H' a u := by
  rcases h with h | ⟨o, h⟩
  · exact .inl (e _ _ h)
  · exact .inr ⟨o, e _ _ h⟩
theorem same_t {K : PySem.W.Frag} {H H' : Hp} {a : Addr} {xs : List V} (e : Same H H') (h : SqT K H a xs) : SqT K H' a xs := by
  rcases h with h | h
  · exact .inl (same_rd e h)
  · exact .inr h
theorem same_l {K : PySem.W.Frag} {H H' : Hp} {a : Addr} {xs : List V} (e : Same H H') (h : SqL K H a xs) : SqL K H' a xs := e.seq h
mutual
theorem Rep.mono {K : PySem.W.Frag} {G G' : Hp} (e : Same G G') : ∀ (d : D) (v : V), Rep K G d v → Rep K G' d v
  | .non, _, h => h
  | .bl _, _, h => h
  | .int _, _, h => h
  | .str _, _, h => h
  | .ty _, _, h => h
  | .ref _, _, h => h
  | .tup ds, _, ⟨a, vs, h1, h2, h3, h4⟩ => ⟨a, vs, h1, e _ _ h2, RepL.mono e ds vs h3, h4⟩
  | .ktp ds, _, ⟨a, vs, h1, h2, h3, h4⟩ => ⟨a, vs, h1, same_t e h2, RepL.mono e ds vs h3, h4⟩
  | .lst ds, _, ⟨a, vs, h1, h2, h3, h4⟩ => ⟨a, vs, h1, e _ _ h2, RepL.mono e ds vs h3, h4⟩
  | .scr _, _, ⟨a, h1, h2, h3⟩ => ⟨a, h1, same_l e h2, h3⟩
  | .dct _ ds, _, ⟨a, kvs, h1, h2, h3, h4, h5, h6⟩ => ⟨a, kvs, h1, same_rd e h2, h3, RepL.mono e ds _ h4, h5, h6⟩
  | .ins _ _ ds, _, ⟨a, dx, fs, h1, h2, h3, h4⟩ => ⟨a, dx, fs, h1, e _ _ h2, h3, RepL.mono e ds _ h4⟩
theorem RepL.mono {K : PySem.W.Frag} {G G' : Hp} (e : Same G G') : ∀ (ds : List D) (vs : List V), RepL K G ds vs → RepL K G' ds vs
  | [], _, h => h
  | d :: ds, _, ⟨v, r, h1, h2, h3⟩ => ⟨v, r, h1, Rep.mono e d v h2, RepL.mono e ds r h3⟩
end
section
variable {K : PySem.W.Frag} {G G' H H' : Hp} {d : D} {ds : List D} {v : V} {vs : List V}
theorem RepL.nil : RepL K G [] [] := rfl
theorem RepL.cons (h : Rep K G d v) (r : RepL K G ds vs) : RepL K G (d :: ds) (v :: vs) := ⟨v, vs, rfl, h, r⟩
theorem RepL.length : ∀ {ds : List D} {vs : List V}, RepL K G ds vs → vs.length = ds.length
  | [], _, h => by cases h; rfl
  | d :: ds, _, ⟨v, r, h1, h2, h3⟩ => by cases h1; simp [RepL.length h3]
theorem RepL.get : ∀ {ds : List D} {vs : List V} {i : Nat} {d : D}, RepL K G ds vs → ds[i]? = some d → ∃ v, vs[i]? = some v ∧ Rep K G d v
  | [], _, _, _, h, e => by simp at e
  | d :: ds, _, 0, _, ⟨v, r, h1, h2, h3⟩, e => by cases h1; simp at e; subst e; exact ⟨v, rfl, h2⟩
  | d :: ds, _, i + 1, _, ⟨v, r, h1, h2, h3⟩, e => by
    cases h1
    obtain ⟨u, a, b⟩ := RepL.get (i := i) h3 (by simpa using e)
    exact ⟨u, by simpa using a, b⟩
theorem RepL.getV : ∀ {ds : List D} {vs : List V} {i : Nat} {v : V}, RepL K G ds vs → vs[i]? = some v → ∃ d, ds[i]? = some d ∧ Rep K G d v
  | [], _, _, _, h, e => by cases h; simp at e
  | d :: ds, _, 0, _, ⟨v, r, h1, h2, h3⟩, e => by cases h1; simp at e; subst e; exact ⟨d, rfl, h2⟩
  | d :: ds, _, i + 1, _, ⟨v, r, h1, h2, h3⟩, e => by
    cases h1
    obtain ⟨u, a, b⟩ := RepL.getV (i := i) h3 (by simpa using e)
    exact ⟨u, by simpa using a, b⟩
theorem RepL.append : ∀ {ds es : List D} {vs us : List V}, RepL K G ds vs → RepL K G es us → RepL K G (ds ++ es) (vs ++ us)
  | [], _, _, _, h, r => by cases h; simpa using r
  | d :: ds, _, _, _, ⟨v, q, h1, h2, h3⟩, r => by
    cases h1
    exact ⟨v, _, rfl, h2, RepL.append h3 r⟩
theorem RepL.take : ∀ {ds : List D} {vs : List V} (n : Nat), RepL K G ds vs → RepL K G (ds.take n) (vs.take n)
  | [], _, n, h => by cases h; simp; rfl
  | d :: ds, _, 0, h => by simp; rfl
  | d :: ds, _, n + 1, ⟨v, q, h1, h2, h3⟩ => by
    cases h1
    exact ⟨v, _, rfl, h2, RepL.take n h3⟩
theorem RepL.drop : ∀ {ds : List D} {vs : List V} (n : Nat), RepL K G ds vs → RepL K G (ds.drop n) (vs.drop n)
  | [], _, n, h => by cases h; simp; rfl
  | d :: ds, _, 0, h => by simpa using h
  | d :: ds, _, n + 1, ⟨v, q, h1, h2, h3⟩ => by
    cases h1
    simpa using RepL.drop n h3
theorem RepL.set : ∀ {ds : List D} {vs : List V} (n : Nat), RepL K G ds vs → Rep K G d v → RepL K G (ds.set n d) (vs.set n v)
  | [], _, n, h, _ => by cases h; simp; rfl
  | e :: ds, _, 0, ⟨w, q, h1, h2, h3⟩, r => by cases h1; exact ⟨v, _, rfl, r, h3⟩
  | e :: ds, _, n + 1, ⟨w, q, h1, h2, h3⟩, r => by
    cases h1
    exact ⟨w, _, rfl, h2, RepL.set n h3 r⟩
theorem RepL.reverse : ∀ {ds : List D} {vs : List V}, RepL K G ds vs → RepL K G ds.reverse vs.reverse
  | [], _, h => by cases h; simp; rfl
  | d :: ds, _, ⟨v, q, h1, h2, h3⟩ => by
    cases h1
    rw [List.reverse_cons, List.reverse_cons]
    exact RepL.append (RepL.reverse h3) (RepL.cons h2 rfl)
end

/-- what a mutable object is -/
def RepM (K : PySem.W.Frag) (G H : Hp) (a : Addr) : MO → Prop
  | .lst ds => ∃ vs, H a = some (.lst vs) ∧ RepL K G ds vs ∧ vs.length ≤ sizeLine
  | .dK kvs => ∃ kv : List (Key × V), H a = some (.dK kv) ∧ kv.map (·.1) = kvs.map (·.1) ∧ RepL K G (kvs.map (·.2)) (kv.map (·.2)) ∧ kv.length ≤ sizeLine ∧ ∀ q ∈ kvs, kOk q.1
  | .dT kvs => ∃ kv : List (List Key × V), H a = some (.dT kv) ∧ kv.map (·.1) = kvs.map (·.1) ∧ RepL K G (kvs.map (·.2)) (kv.map (·.2)) ∧ kv.length ≤ sizeLine ∧ ∀ q ∈ kvs, q.1.length ≤ sizeLine ∧ ∀ k ∈ q.1, kOk k
  | .ins C fs => ∃ dx fv, H a = some (.ins C dx fv) ∧ fv.map (·.1) = fs.map (·.1) ∧ RepL K G (fs.map (·.2)) (fv.map (·.2))
  | .lk ho kvs => ∃ (o : Obj) (kv : List (Key × V)), ho = .frz o (.dK kv) ∧ H a = some ho ∧ kv.map (·.1) = kvs.map (·.1) ∧ RepL K G (kvs.map (·.2)) (kv.map (·.2)) ∧ kv.length ≤ sizeLine ∧ ∀ q ∈ kvs, kOk q.1
  | .lkT ho kvs => ∃ (o : Obj) (kv : List (List Key × V)), ho = .frz o (.dT kv) ∧ H a = some ho ∧ kv.map (·.1) = kvs.map (·.1) ∧ RepL K G (kvs.map (·.2)) (kv.map (·.2)) ∧ kv.length ≤ sizeLine ∧ ∀ q ∈ kvs, q.1.length ≤ sizeLine ∧ ∀ k ∈ q.1, kOk k
  | .bag => ∃ g m : Int, H a = some (.lst [.int g, .int m]) ∧ 0 ≤ g ∧ 0 ≤ m ∧ m < 2147483648
/-- the mutable objects stand in H, apart from what is known for good (G) -/
def MemOk (K : PySem.W.Frag) (G H : Hp) (M : Mst) : Prop := ∀ a o, M a = some o → G a = none ∧ RepM K G H a o
abbrev Rho := List (Option D)
/-- the slots, the heap and what is known of them -/
structure Sim (K : PySem.W.Frag) (G H : Hp) (p : Rho) (M : Mst) (s : St) : Prop where
  same : Same G H
  env : ∀ (i : Nat) (d : D), p[i]? = some (some d) → ∃ v, s[i]? = some (some v) ∧ Rep K G d v
  len : s.length = p.length
  mem : MemOk K G H M

/-- an exception: its class, its fields -/
structure DX where
  cls : Value
  fs : List (Str × D)
def RepX (K : PySem.W.Frag) (G : Hp) (x : DX) (cls : Value) (dx : Option Addr) : Prop :=
  cls = x.cls ∧ (x.fs = [] ∨ ∃ d vf, dx = some d ∧ G d = some (.xd vf) ∧ vf.map (·.1) = x.fs.map (·.1) ∧ RepL K G (x.fs.map (·.2)) (vf.map (·.2)))

abbrev DK := D → Mst → Prop
abbrev DWt := DX → Rho → Mst → Prop
abbrev DTE := DWt → Rho → Mst → DK → Prop
abbrev DTT := DWt → Rho → Mst → (Bool → Mst → Prop) → Prop
abbrev DTA := DWt → Rho → Mst → (List D → Mst → Prop) → Prop
structure DEnds where
  nx : Rho → Mst → Prop
  rt : DK
  bk : Rho → Mst → Prop := fun _ _ => False
  ct : Rho → Mst → Prop := fun _ _ => False
abbrev DTS := DWt → DEnds → Rho → Mst → Prop
abbrev DTG := D → DWt → Rho → Mst → (Rho → Mst → Prop) → Prop
abbrev DTGs := List D → DWt → Rho → Mst → (Rho → Mst → Prop) → Prop
abbrev DOp := D → D → Mst → DK → Prop
abbrev DUn := D → Mst → DK → Prop
abbrev DCa := List D → Mst → DK → Prop
/-- a promise by data -/
abbrev DSp := List D → Mst → DK → (DX → Mst → Prop) → Prop

/-- the wish about exceptions -/
def WLink (K : PySem.W.Frag) (G : Hp) (DW : DWt) (W : WX) : Prop := ∀ G' H' p' M' s' x cls dx, Same G G' → Sim K G' H' p' M' s' → RepX K G' x cls dx → DW x p' M' → W cls dx s' H'
theorem WLink.mono {K : PySem.W.Frag} {G G' : Hp} {DW : DWt} {W : WX} (e : Same G G') (h : WLink K G DW W) : WLink K G' DW W :=
  fun G2 H' p' M' s' x cls dx e2 => h G2 H' p' M' s' x cls dx (e.trans e2)

def RefE (K : PySem.W.Frag) (W : WX) (t : TE) (q : DTE) : Prop := ∀ DW G H p M s (Q : DK) (Q' : VK), WLink K G DW W → Sim K G H p M s → q DW p M Q →
  (∀ G' H' M' d v, Same G G' → Sim K G' H' p M' s → Rep K G' d v → Q d M' → Q' v H') → t s H Q'
def RefT (K : PySem.W.Frag) (W : WX) (t : TT) (q : DTT) : Prop := ∀ DW G H p M s (Q : Bool → Mst → Prop) (Q' : Bool → Hp → Prop), WLink K G DW W → Sim K G H p M s → q DW p M Q →
  (∀ G' H' M' b, Same G G' → Sim K G' H' p M' s → Q b M' → Q' b H') → t s H Q'
def RefA (K : PySem.W.Frag) (W : WX) (t : TA) (q : DTA) : Prop := ∀ DW G H p M s (Q : List D → Mst → Prop) (Q' : List V → Hp → Prop), WLink K G DW W → Sim K G H p M s → q DW p M Q →
  (∀ G' H' M' ds vs, Same G G' → Sim K G' H' p M' s → RepL K G' ds vs → Q ds M' → Q' vs H') → t s H Q'
structure EndsOk (K : PySem.W.Frag) (G : Hp) (DE : DEnds) (E : Ends) : Prop where
  nx : ∀ G' H' p' M' s', Same G G' → Sim K G' H' p' M' s' → DE.nx p' M' → E.nx s' H'
  rt : ∀ G' H' p' M' s' d v, Same G G' → Sim K G' H' p' M' s' → Rep K G' d v → DE.rt d M' → E.rt v H'
  bk : ∀ G' H' p' M' s', Same G G' → Sim K G' H' p' M' s' → DE.bk p' M' → E.bk s' H'
  ct : ∀ G' H' p' M' s', Same G G' → Sim K G' H' p' M' s' → DE.ct p' M' → E.ct s' H'
theorem EndsOk.mono {K : PySem.W.Frag} {G G' : Hp} {DE : DEnds} {E : Ends} (e : Same G G') (h : EndsOk K G DE E) : EndsOk K G' DE E :=
  ⟨fun G2 H' p' M' s' e2 => h.nx G2 H' p' M' s' (e.trans e2), fun G2 H' p' M' s' d v e2 => h.rt G2 H' p' M' s' d v (e.trans e2),
    fun G2 H' p' M' s' e2 => h.bk G2 H' p' M' s' (e.trans e2), fun G2 H' p' M' s' e2 => h.ct G2 H' p' M' s' (e.trans e2)⟩
def RefS (K : PySem.W.Frag) (W : WX) (t : TS) (q : DTS) : Prop := ∀ DW G H p M s (DE : DEnds) (E : Ends), WLink K G DW W → Sim K G H p M s → q DW DE p M → EndsOk K G DE E → t E s H
def RefG (K : PySem.W.Frag) (W : WX) (t : TG) (q : DTG) : Prop := ∀ DW G H p M s d v (Q : Rho → Mst → Prop) (Q' : St → Hp → Prop), WLink K G DW W → Sim K G H p M s → Rep K G d v → q d DW p M Q →
  (∀ G' H' p' M' s', Same G G' → Sim K G' H' p' M' s' → Q p' M' → Q' s' H') → t v s H Q'
def RefGs (K : PySem.W.Frag) (W : WX) (t : TGs) (q : DTGs) : Prop := ∀ DW G H p M s ds vs (Q : Rho → Mst → Prop) (Q' : St → Hp → Prop), WLink K G DW W → Sim K G H p M s → RepL K G ds vs → q ds DW p M Q →
  (∀ G' H' p' M' s', Same G G' → Sim K G' H' p' M' s' → Q p' M' → Q' s' H') → t vs s H Q'
/-- rules by values -/
def RefR2 (K : PySem.W.Frag) (r : R2) (q : DOp) : Prop := ∀ G H p M s x y v u (Q : DK) (Q' : VK), Sim K G H p M s → Rep K G x v → Rep K G y u → q x y M Q →
  (∀ G' H' M' d w, Same G G' → Sim K G' H' p M' s → Rep K G' d w → Q d M' → Q' w H') → r v u H Q'
def RefU (K : PySem.W.Frag) (r : V → Hp → VK → Prop) (q : DUn) : Prop := ∀ G H p M s x v (Q : DK) (Q' : VK), Sim K G H p M s → Rep K G x v → q x M Q →
  (∀ G' H' M' d w, Same G G' → Sim K G' H' p M' s → Rep K G' d w → Q d M' → Q' w H') → r v H Q'
def RefC (K : PySem.W.Frag) (r : List V → Hp → VK → Prop) (q : DCa) : Prop := ∀ G H p M s ds vs (Q : DK) (Q' : VK), Sim K G H p M s → RepL K G ds vs → q ds M Q →
  (∀ G' H' M' d w, Same G G' → Sim K G' H' p M' s → Rep K G' d w → Q d M' → Q' w H') → r vs H Q'

structure QE (X : Cx) (W : WX) (e : Expr) (t : TE) (q : DTE) : Prop where
  pe : PE X e t
  rf : RefE X.K W t q
structure QT (X : Cx) (W : WX) (e : Expr) (t : TT) (q : DTT) : Prop where
  pe : PT X e t
  rf : RefT X.K W t q
structure QW (X : Cx) (W : WX) (e : Expr) (t : TT) (q : DTT) : Prop where
  pe : PW X e t
  rf : RefT X.K W t q
structure QA (X : Cx) (W : WX) (es : List Expr) (t : TA) (q : DTA) : Prop where
  pe : PA X es t
  rf : RefA X.K W t q
structure QS (X : Cx) (W : WX) (st : Stmt) (t : TS) (q : DTS) : Prop where
  pe : PS X st t
  rf : RefS X.K W t q
structure QSs (X : Cx) (W : WX) (st : List Stmt) (t : TS) (q : DTS) : Prop where
  pe : PSs X st t
  rf : RefS X.K W t q
structure QG (X : Cx) (W : WX) (tg : Expr) (t : TG) (q : DTG) : Prop where
  pe : PG X tg t
  rf : RefG X.K W t q
structure QGs (X : Cx) (W : WX) (tg : List Expr) (t : TGs) (q : DTGs) : Prop where
  pe : PGs X tg t
  rf : RefGs X.K W t q
structure QOp (X : Cx) (f : Value → Value → Sem Value) (r : R2) (q : DOp) : Prop where
  op : OpR X f r
  rf : RefR2 X.K r q
structure QCa (X : Cx) (f : Value) (r : List V → Hp → VK → Prop) (q : DCa) : Prop where
  op : CallR X f r
  rf : RefC X.K r q
theorem QW.t {X : Cx} {W : WX} {e : Expr} {t : TT} {q : DTT} (h : QW X W e t q) : QT X W e t q := ⟨h.pe.pt, h.rf⟩

/-! ### the mutable store -/
def put (M : Mst) (a : Addr) (o : MO) : Mst := fun b => if b = a then some o else M b
def del (M : Mst) (a : Addr) : Mst := fun b => if b = a then none else M b
section
variable {M : Mst} {a b : Addr} {o u : MO}
@[simp] theorem put_same : put M a o a = some o := by simp [put]
theorem put_ne (h : b ≠ a) : put M a o b = M b := by simp [put, h]
@[simp] theorem put_put : put (put M a o) a u = put M a u := by
  funext c; unfold put; split <;> rfl
@[simp] theorem del_put (h : M a = none) : del (put M a o) a = M := by
  funext c
  unfold del put
  split
  · next e => rw [e, h]
  · rfl
theorem put_comm (h : a ≠ b) : put (put M a o) b u = put (put M b u) a o := by
  funext c; unfold put
  by_cases h1 : c = b
  · by_cases h2 : c = a
    · exact absurd (h2.symm.trans h1) h
    · simp [h1, h2, Ne.symm h]
  · simp [h1]
theorem put_id (h : M a = some o) : put M a o = M := by
  funext c; unfold put; split
  · next e => rw [e, h]
  · rfl
end

section
variable {K : PySem.W.Frag} {G G' H H' : Hp} {p : Rho} {M : Mst} {s : St} {a : Addr} {o : HO} {mo : MO}
theorem RepM.mono {a : Addr} {mo : MO} (e : Same G G') (h : RepM K G H a mo) (hh : H' a = H a) : RepM K G' H' a mo := by
  cases mo with
  | lst ds => obtain ⟨vs, h1, h2, h3⟩ := h; exact ⟨vs, hh.trans h1, RepL.mono e _ _ h2, h3⟩
  | dK kvs => obtain ⟨vs, h1, h2, h3, h4⟩ := h; exact ⟨vs, hh.trans h1, h2, RepL.mono e _ _ h3, h4⟩
  | dT kvs => obtain ⟨vs, h1, h2, h3, h4⟩ := h; exact ⟨vs, hh.trans h1, h2, RepL.mono e _ _ h3, h4⟩
  | ins C fs => obtain ⟨dx, vs, h1, h2, h3⟩ := h; exact ⟨dx, vs, hh.trans h1, h2, RepL.mono e _ _ h3⟩
  | lk ho kvs => obtain ⟨o, vs, h0, h1, h2, h3, h4⟩ := h; exact ⟨o, vs, h0, hh.trans h1, h2, RepL.mono e _ _ h3, h4⟩
  | lkT ho kvs => obtain ⟨o, vs, h0, h1, h2, h3, h4⟩ := h; exact ⟨o, vs, h0, hh.trans h1, h2, RepL.mono e _ _ h3, h4⟩
  | bag => obtain ⟨g, m, h1, h2⟩ := h; exact ⟨g, m, hh.trans h1, h2⟩
theorem RepM.there (h : RepM K G H a mo) : ∃ o, H a = some o := by
  cases mo with
  | lst ds => obtain ⟨vs, h1, _⟩ := h; exact ⟨_, h1⟩
  | dK ds => obtain ⟨vs, h1, _⟩ := h; exact ⟨_, h1⟩
  | dT ds => obtain ⟨vs, h1, _⟩ := h; exact ⟨_, h1⟩
  | ins C ds => obtain ⟨dx, vs, h1, _⟩ := h; exact ⟨_, h1⟩
  | lk ho ds => obtain ⟨o, vs, _, h1, _⟩ := h; exact ⟨_, h1⟩
  | lkT ho ds => obtain ⟨o, vs, _, h1, _⟩ := h; exact ⟨_, h1⟩
  | bag => obtain ⟨g, vs, h1, _⟩ := h; exact ⟨_, h1⟩
theorem MemOk.fresh (h : MemOk K G H M) (e : H a = none) : M a = none := by
  cases q : M a with
  | none => rfl
  | some u =>
    obtain ⟨o, r⟩ := (h a u q).2.there
    rw [e] at r; cases r
theorem Same.upd (e : Same G H) (hn : H a = none) : Same (upd G a o) (upd H a o) := fun b u q => by
  by_cases h : b = a
  · subst h; rw [upd_same] at q ⊢; exact q
  · rw [upd_ne h] at q ⊢; exact e _ _ q
theorem same_new (hn : H a = none) : Same H (upd H a o) := fun b u q => by rw [upd_ne (ne_of_none q hn)]; exact q
/-- what is frozen grows by what is not mutable -/
theorem MemOk.grow (h : MemOk K G H M) (e : Same G G') (hk : ∀ b u, M b = some u → H' b = H b) (hg : ∀ b u, M b = some u → G' b = none) : MemOk K G' H' M := fun b u q =>
  ⟨hg b u q, (h b u q).2.mono e (hk b u q)⟩
/-- a new object that will not change -/
theorem Sim.made (S : Sim K G H p M s) (hn : H a = none) : Same G (L2.upd G a o) ∧ Sim K (L2.upd G a o) (L2.upd H a o) p M s := by
  have gn : G a = none := S.same.free hn
  have mn : M a = none := S.mem.fresh hn
  have e : Same G (L2.upd G a o) := same_new gn
  have ne : ∀ b u, M b = some u → b ≠ a := fun b u q z => by rw [z, mn] at q; cases q
  refine ⟨e, Same.upd S.same hn, fun i d q => ?_, S.len, S.mem.grow e (fun b u q => upd_ne (ne b u q)) (fun b u q => by rw [upd_ne (ne b u q)]; exact (S.mem b u q).1)⟩
  obtain ⟨v, h1, h2⟩ := S.env i d q
  exact ⟨v, h1, Rep.mono e _ _ h2⟩
/-- a mutable object is new, or changes -/
theorem Sim.put (S : Sim K G H p M s) (hg : G a = none) (h : RepM K G (L2.upd H a o) a mo) : Sim K G (L2.upd H a o) p (put M a mo) s := by
  refine ⟨fun b u q => ?_, S.env, S.len, fun b u q => ?_⟩
  · rw [upd_ne (ne_of_none q hg)]; exact S.same b u q
  · by_cases e : b = a
    · subst e; rw [put_same] at q; cases q; exact ⟨hg, h⟩
    · rw [put_ne e] at q
      exact ⟨(S.mem b u q).1, (S.mem b u q).2.mono (Same.refl G) (upd_ne e)⟩
/-- a mutable list will change no more -/
theorem Sim.freeze {ds : List D} (S : Sim K G H p M s) (h : M a = some (.lst ds)) : ∃ G', Same G G' ∧ Sim K G' H p (del M a) s ∧ Rep K G' (.lst ds) (.ref a) := by
  obtain ⟨gn, vs, h1, h2, h3⟩ := S.mem _ _ h
  have e : Same G (L2.upd G a (.lst vs)) := same_new gn
  refine ⟨L2.upd G a (.lst vs), e, ⟨fun b u q => ?_, fun i d q => ?_, S.len, fun b u q => ?_⟩, a, vs, rfl, upd_same, RepL.mono e _ _ h2, h3⟩
  · by_cases z : b = a
    · subst z; rw [upd_same] at q; cases q; exact h1
    · rw [upd_ne z] at q; exact S.same _ _ q
  · obtain ⟨v, r1, r2⟩ := S.env i d q
    exact ⟨v, r1, Rep.mono e _ _ r2⟩
  · by_cases z : b = a
    · subst z; simp [del] at q
    · have q' : M b = some u := by simpa [del, z] using q
      exact ⟨by rw [upd_ne z]; exact (S.mem b u q').1, (S.mem b u q').2.mono e rfl⟩
theorem Sim.freezeD {kvs : List (Key × D)} (S : Sim K G H p M s) (h : M a = some (.dK kvs)) : ∃ G', Same G G' ∧ Sim K G' H p (del M a) s ∧ Rep K G' (.dct (kvs.map (·.1)) (kvs.map (·.2))) (.ref a) := by
  obtain ⟨gn, vs, h1, h2, h3, h4, h5⟩ := S.mem _ _ h
  have e : Same G (L2.upd G a (.dK vs)) := same_new gn
  refine ⟨L2.upd G a (.dK vs), e, ⟨fun b u q => ?_, fun i d q => ?_, S.len, fun b u q => ?_⟩, a, vs, rfl, .inl upd_same, h2, RepL.mono e _ _ h3, h4, fun k hk => by obtain ⟨q, q1, rfl⟩ := List.mem_map.mp hk; exact h5 q q1⟩
  · by_cases z : b = a
    · subst z; rw [upd_same] at q; cases q; exact h1
    · rw [upd_ne z] at q; exact S.same _ _ q
  · obtain ⟨v, r1, r2⟩ := S.env i d q
    exact ⟨v, r1, Rep.mono e _ _ r2⟩
  · by_cases z : b = a
    · subst z; simp [del] at q
    · have q' : M b = some u := by simpa [del, z] using q
      exact ⟨by rw [upd_ne z]; exact (S.mem b u q').1, (S.mem b u q').2.mono e rfl⟩
theorem Sim.freezeI {C : Addr} {fs : List (Str × D)} (S : Sim K G H p M s) (h : M a = some (.ins C fs)) : ∃ G', Same G G' ∧ Sim K G' H p (del M a) s ∧ Rep K G' (.ins C (fs.map (·.1)) (fs.map (·.2))) (.ref a) := by
  obtain ⟨gn, dx, vs, h1, h2, h3⟩ := S.mem _ _ h
  have e : Same G (L2.upd G a (.ins C dx vs)) := same_new gn
  refine ⟨L2.upd G a (.ins C dx vs), e, ⟨fun b u q => ?_, fun i d q => ?_, S.len, fun b u q => ?_⟩, a, dx, vs, rfl, upd_same, h2, RepL.mono e _ _ h3⟩
  · by_cases z : b = a
    · subst z; rw [upd_same] at q; cases q; exact h1
    · rw [upd_ne z] at q; exact S.same _ _ q
  · obtain ⟨v, r1, r2⟩ := S.env i d q
    exact ⟨v, r1, Rep.mono e _ _ r2⟩
  · by_cases z : b = a
    · subst z; simp [del] at q
    · have q' : M b = some u := by simpa [del, z] using q
      exact ⟨by rw [upd_ne z]; exact (S.mem b u q').1, (S.mem b u q').2.mono e rfl⟩
end
end DL

/-! DLb: expressions. -/
namespace DL
open PySem L2

/-- what a mutable object holds now -/
def res (M : Mst) : D → D
  | .ref a => match M a with
    | some (.lst ds) => .lst ds
    | some (.dK kvs) => .dct (kvs.map (·.1)) (kvs.map (·.2))
    | some (.lk _ kvs) => .dct (kvs.map (·.1)) (kvs.map (·.2))
    | some (.ins C fs) => .ins C (fs.map (·.1)) (fs.map (·.2))
    | _ => .ref a
  | .ktp ds => .tup ds
  | d => d
section
variable {M : Mst}
@[simp] theorem res_non : res M .non = .non := rfl
@[simp] theorem res_bl {b} : res M (.bl b) = .bl b := rfl
@[simp] theorem res_int {b} : res M (.int b) = .int b := rfl
@[simp] theorem res_str {b} : res M (.str b) = .str b := rfl
@[simp] theorem res_ty {b} : res M (.ty b) = .ty b := rfl
@[simp] theorem res_tup {b} : res M (.tup b) = .tup b := rfl
@[simp] theorem res_ktp {b} : res M (.ktp b) = .tup b := rfl
@[simp] theorem res_lst {b} : res M (.lst b) = .lst b := rfl
@[simp] theorem res_scr {b} : res M (.scr b) = .scr b := rfl
@[simp] theorem res_dct {b c} : res M (.dct b c) = .dct b c := rfl
@[simp] theorem res_ins {b c d} : res M (.ins b c d) = .ins b c d := rfl
end
section
variable {K : PySem.W.Frag} {G H : Hp} {p : Rho} {M : Mst} {s : L2.St} {d : D} {v : V}
theorem as_lst {ds : List D} (S : Sim K G H p M s) (r : Rep K G d v) (h : res M d = .lst ds) : ∃ a vs, v = .ref a ∧ H a = some (.lst vs) ∧ RepL K G ds vs ∧ vs.length ≤ sizeLine := by
  cases d with
  | lst es =>
    cases h
    obtain ⟨a, vs, h1, h2, h3, h4⟩ := r
    exact ⟨a, vs, h1, S.same _ _ h2, h3, h4⟩
  | ref a =>
    simp only [res] at h
    split at h
    · next es e =>
      cases h
      obtain ⟨gn, vs, h1, h2, h3⟩ := S.mem _ _ e
      exact ⟨a, vs, r, h1, h2, h3⟩
    · cases h
    · cases h
    · cases h
    · cases h
  | _ => cases h
theorem as_tup {ds : List D} (S : Sim K G H p M s) (r : Rep K G d v) (h : res M d = .tup ds) : ∃ a vs, v = .ref a ∧ SqT K H a vs ∧ RepL K G ds vs ∧ vs.length ≤ sizeLine := by
  cases d with
  | tup es =>
    cases h
    obtain ⟨a, vs, h1, h2, h3, h4⟩ := r
    exact ⟨a, vs, h1, .inl (.inl (S.same _ _ h2)), h3, h4⟩
  | ktp es =>
    cases h
    obtain ⟨a, vs, h1, h2, h3, h4⟩ := r
    exact ⟨a, vs, h1, same_t S.same h2, h3, h4⟩
  | ref a =>
    simp only [res] at h
    split at h <;> cases h
  | _ => cases h
theorem as_str {x : Str} (r : Rep K G d v) (h : res M d = .str x) : v = .str x ∧ x.length ≤ sizeLine ∧ PyData.strOk x = true := by
  cases d with
  | str es => cases h; exact r
  | ref a =>
    simp only [res] at h
    split at h <;> cases h
  | _ => cases h
theorem as_int {x : Int} (r : Rep K G d v) (h : res M d = .int x) : v = .int x := by
  cases d with
  | int es => cases h; exact r
  | ref a =>
    simp only [res] at h
    split at h <;> cases h
  | _ => cases h
theorem as_bl {x : Bool} (r : Rep K G d v) (h : res M d = .bl x) : v = .bl x := by
  cases d with
  | bl es => cases h; exact r
  | ref a =>
    simp only [res] at h
    split at h <;> cases h
  | _ => cases h
theorem as_dct {ks : List Key} {ds : List D} (S : Sim K G H p M s) (r : Rep K G d v) (h : res M d = .dct ks ds) :
    ∃ a kvs, v = .ref a ∧ Rd H a (.dK kvs) ∧ kvs.map (·.1) = ks ∧ RepL K G ds (kvs.map (·.2)) ∧ kvs.length ≤ sizeLine ∧ ∀ k ∈ ks, kOk k := by
  cases d with
  | dct es fs =>
    cases h
    obtain ⟨a, vs, h1, h2, h3, h4, h5⟩ := r
    exact ⟨a, vs, h1, same_rd S.same h2, h3, h4, h5⟩
  | ref a =>
    simp only [res] at h
    split at h
    · cases h
    · next es e =>
      cases h
      obtain ⟨gn, vs, h1, h2, h3, h4, h5⟩ := S.mem _ _ e
      exact ⟨a, vs, r, .inl h1, h2, h3, h4, fun k hk => by obtain ⟨q, q1, rfl⟩ := List.mem_map.mp hk; exact h5 q q1⟩
    · next es e =>
      cases h
      obtain ⟨gn, o, vs, h0, h1, h2, h3, h4, h5⟩ := S.mem _ _ e
      exact ⟨a, vs, r, .inr ⟨o, by rw [← h0]; exact h1⟩, h2, h3, h4, fun k hk => by obtain ⟨q, q1, rfl⟩ := List.mem_map.mp hk; exact h5 q q1⟩
    · cases h
    · cases h
  | _ => cases h
theorem as_ins {C : Addr} {ns : List Str} {ds : List D} (S : Sim K G H p M s) (r : Rep K G d v) (h : res M d = .ins C ns ds) :
    ∃ a dx fs, v = .ref a ∧ H a = some (.ins C dx fs) ∧ fs.map (·.1) = ns ∧ RepL K G ds (fs.map (·.2)) := by
  cases d with
  | ins es fs gs =>
    cases h
    obtain ⟨a, dx, vs, h1, h2, h3, h4⟩ := r
    exact ⟨a, dx, vs, h1, S.same _ _ h2, h3, h4⟩
  | ref a =>
    simp only [res] at h
    split at h
    · cases h
    · cases h
    · cases h
    · next es e =>
      cases h
      obtain ⟨gn, dx, vs, h1, h2, h3⟩ := S.mem _ _ e
      exact ⟨a, dx, vs, r, h1, h2, h3⟩
    · cases h
  | _ => cases h
end

/-- a list that is made: to be changed later (m), or not -/
def newL (m : Bool) (ds : List D) (M : Mst) (Q : DK) : Prop :=
  match m with
  | true => ∀ a, M a = none → Q (.ref a) (put M a (.lst ds))
  | false => Q (.lst ds) M
@[simp] theorem newL_t {ds M Q} : newL true ds M Q = ∀ a, M a = none → Q (.ref a) (put M a (.lst ds)) := rfl
@[simp] theorem newL_f {ds M Q} : newL false ds M Q = Q (.lst ds) M := rfl
section
variable {K : PySem.W.Frag} {G H : Hp} {p : Rho} {M : Mst} {s : L2.St} {d : D} {v : V} {a : Addr}
theorem newL_ok {m : Bool} {ds : List D} {vs : List V} {Q : DK} {Q' : VK} (S : Sim K G H p M s) (hn : H a = none) (r : RepL K G ds vs) (hl : vs.length ≤ sizeLine) (h : newL m ds M Q)
    (k : ∀ G' H' M' d w, Same G G' → Sim K G' H' p M' s → Rep K G' d w → Q d M' → Q' w H') : Q' (.ref a) (upd H a (.lst vs)) := by
  cases m with
  | true =>
    have h1 := h a (S.mem.fresh hn)
    exact k G _ _ (.ref a) _ (Same.refl _) (S.put (mo := .lst ds) (S.same.free hn) ⟨vs, upd_same, r, hl⟩) rfl h1
  | false =>
    obtain ⟨e, S'⟩ := S.made (o := .lst vs) hn
    exact k _ _ _ (.lst ds) _ e S' ⟨a, vs, rfl, upd_same, RepL.mono e _ _ r, hl⟩ h
theorem newT_ok {ds : List D} {vs : List V} {Q : DK} {Q' : VK} (S : Sim K G H p M s) (hn : H a = none) (r : RepL K G ds vs) (hl : vs.length ≤ sizeLine) (h : Q (.tup ds) M)
    (k : ∀ G' H' M' d w, Same G G' → Sim K G' H' p M' s → Rep K G' d w → Q d M' → Q' w H') : Q' (.ref a) (upd H a (.tup vs)) := by
  obtain ⟨e, S'⟩ := S.made (o := .tup vs) hn
  exact k _ _ _ (.tup ds) _ e S' ⟨a, vs, rfl, upd_same, RepL.mono e _ _ r, hl⟩ h
end
theorem sz1000 {n : Nat} (h : n ≤ 100000) : n ≤ sizeLine := Nat.le_trans h (by rw [sizeLine_eq]; decide)

/-! ### names, constants -/
@[simp] def qVar (i : Nat) : DTE := fun _ p M Q => match p[i]? with | some (some d) => Q d M | _ => False
/-- a name whose list (dict, instance) will change no more -/
def qVarF (i : Nat) : DTE := fun _ p M Q => match p[i]? with
  | some (some (.ref a)) => match M a with
    | some (.lst ds) => Q (.lst ds) (del M a)
    | some (.dK kvs) => Q (.dct (kvs.map (·.1)) (kvs.map (·.2))) (del M a)
    | some (.ins C fs) => Q (.ins C (fs.map (·.1)) (fs.map (·.2))) (del M a)
    | _ => False
  | some (some d) => Q d M
  | _ => False
@[simp] def qC (d : D) : DTE := fun _ _ M Q => Q d M
section
variable {X : Cx} {W : WX} {x : Str} {pos : Pos}
theorem qe_var {i : Nat} (h : PE X (.Name x pos) (tVar i)) : QE X W (.Name x pos) (tVar i) (qVar i) := by
  refine ⟨h, fun DW G H p M s Q Q' hw S q k => ?_⟩
  unfold qVar at q
  split at q
  · next d e =>
    obtain ⟨v, h1, h2⟩ := S.env i d e
    exact ⟨v, h1, k G H M d v (Same.refl _) S h2 q⟩
  · exact q.elim
theorem qe_varF {i : Nat} (h : PE X (.Name x pos) (tVar i)) : QE X W (.Name x pos) (tVar i) (qVarF i) := by
  refine ⟨h, fun DW G H p M s Q Q' hw S q k => ?_⟩
  unfold qVarF at q
  split at q
  · next a e =>
    obtain ⟨v, h1, h2⟩ := S.env i _ e
    cases h2
    split at q
    · next ds em =>
      obtain ⟨G', e1, S', r⟩ := S.freeze em
      exact ⟨_, h1, k G' H _ _ _ e1 S' r q⟩
    · next ds em =>
      obtain ⟨G', e1, S', r⟩ := S.freezeD em
      exact ⟨_, h1, k G' H _ _ _ e1 S' r q⟩
    · next C fs em =>
      obtain ⟨G', e1, S', r⟩ := S.freezeI em
      exact ⟨_, h1, k G' H _ _ _ e1 S' r q⟩
    · exact q.elim
  · next d _ e =>
    obtain ⟨v, h1, h2⟩ := S.env i _ e
    exact ⟨v, h1, k G H M d v (Same.refl _) S h2 q⟩
  · exact q.elim
theorem qv (i : Nat) (hN : X.N[i]? = some x := by rfl) (hv : Vis X.env.scope x := by first | exact Or.inl rfl | exact Or.inr (Or.inl rfl) | exact Or.inr (Or.inr rfl)) (hd : (x == ("__debug__" : Str)) = false := by decide)
    (hcd : (x == ("__classdict__" : Str)) = false := by decide) : QE X W (.Name x pos) (tVar i) (qVar i) := qe_var (pe_var hN hv hd hcd)
theorem qvF (i : Nat) (hN : X.N[i]? = some x := by rfl) (hv : Vis X.env.scope x := by first | exact Or.inl rfl | exact Or.inr (Or.inl rfl) | exact Or.inr (Or.inr rfl)) (hd : (x == ("__debug__" : Str)) = false := by decide)
    (hcd : (x == ("__classdict__" : Str)) = false := by decide) : QE X W (.Name x pos) (tVar i) (qVarF i) := qe_varF (pe_var hN hv hd hcd)
theorem qe_c {e : Expr} {v : V} {d : D} (h : PE X e (tC v)) (r : ∀ G, Rep X.K G d v) : QE X W e (tC v) (qC d) :=
  ⟨h, fun DW G H p M s Q Q' hw S q k => k G H M d v (Same.refl _) S (r G) q⟩
theorem q_int {i j pos} : QE X W (.Constant (.int i) j pos) (tC (.int i)) (qC (.int i)) := qe_c pe_int fun _ => rfl
theorem q_bl {i j pos} : QE X W (.Constant (.bool i) j pos) (tC (.bl i)) (qC (.bl i)) := qe_c pe_bl fun _ => rfl
theorem q_non {j pos} : QE X W (.Constant .none j pos) (tC .non) (qC .non) := qe_c pe_non fun _ => rfl
theorem q_str {i j pos} (h : (decide (i.length ≤ 100000) && PyData.strOk i) = true := by decide +kernel) : QE X W (.Constant (.str i) j pos) (tC (.str i)) (qC (.str i)) :=
  qe_c pe_str fun _ => by
    rw [Bool.and_eq_true] at h
    exact ⟨rfl, sz1000 (of_decide_eq_true h.1), h.2⟩
/-- a constant of the module, a def, a class -/
theorem q_glob {x : Str} {v : V} {d : D} {u : Value} {pos : Pos} (hg : Gl X x) (hm : X.mg x = some u) (r : RelV v u) (rd : ∀ G, Rep X.K G d v) (hd : (x == ("__debug__" : Str)) = false := by decide) : QE X W (.Name x pos) (tC v) (qC d) :=
  qe_c (pe_glob hg hm r hd) rd
end

/-! ### arguments, displays -/
@[simp] def qNil : DTA := fun _ _ M Q => Q [] M
@[simp] def qCons (qa : DTE) (qr : DTA) : DTA := fun DW p M Q => qa DW p M fun x M1 => qr DW p M1 fun xs M2 => Q (x :: xs) M2
@[simp] def qTup (qa : DTA) : DTE := fun DW p M Q => qa DW p M fun ds M1 => ds.length ≤ 100000 ∧ Q (.tup ds) M1
@[simp] def qLst (m : Bool) (qa : DTA) : DTE := fun DW p M Q => qa DW p M fun ds M1 => ds.length ≤ 100000 ∧ newL m ds M1 Q
section
variable {X : Cx} {W : WX} {e : Expr} {es : List Expr} {te : TE} {qe : DTE} {t : TA} {q : DTA} {pos : Pos}
theorem qa_nil : QA X W [] tNil qNil := ⟨pa_nil, fun DW G H p M s Q Q' hw S q k => k G H M [] [] (Same.refl _) S rfl q⟩
theorem qa_cons (ha : QE X W e te qe) (hr : QA X W es t q) (hs : starEach (e :: es) X.env = (false, eval e X.env) :: starEach es X.env := by rfl) : QA X W (e :: es) (tCons te t) (qCons qe q) :=
  ⟨pa_cons ha.pe hr.pe hs, fun DW G H p M s Q Q' hw S h k => ha.rf DW G H p M s _ _ hw S h fun G1 H1 M1 d v e1 S1 r1 h1 =>
    hr.rf DW G1 H1 p M1 s _ _ (hw.mono e1) S1 h1 fun G2 H2 M2 ds vs e2 S2 r2 h2 => k G2 H2 M2 _ _ (e1.trans e2) S2 (RepL.cons (Rep.mono e2 _ _ r1) r2) h2⟩
theorem q_tup {x1} (h : QA X W es t q) : QE X W (.Tuple es x1 pos) (tTup t) (qTup q) :=
  ⟨pe_tup h.pe, fun DW G H p M s Q Q' hw S hq k => h.rf DW G H p M s _ _ hw S hq fun G1 H1 M1 ds vs e1 S1 r1 ⟨hl, h1⟩ =>
    have z : vs.length ≤ sizeLine := by rw [r1.length]; exact sz1000 hl
    ⟨z, fun a ha => newT_ok S1 ha r1 z h1 fun G2 H2 M2 d w e2 => k G2 H2 M2 d w (e1.trans e2)⟩⟩
theorem q_lst (m : Bool) (h : QA X W es t q) : QE X W (.List es pos) (tLst t) (qLst m q) :=
  ⟨pe_lst h.pe, fun DW G H p M s Q Q' hw S hq k => h.rf DW G H p M s _ _ hw S hq fun G1 H1 M1 ds vs e1 S1 r1 ⟨hl, h1⟩ =>
    have z : vs.length ≤ sizeLine := by rw [r1.length]; exact sz1000 hl
    ⟨z, fun a ha => newL_ok S1 ha r1 z h1 fun G2 H2 M2 d w e2 => k G2 H2 M2 d w (e1.trans e2)⟩⟩
end

/-! ### operators, built-ins by values -/
@[simp] def qOp (o : DOp) (qa qb : DTE) : DTE := fun DW p M Q => qa DW p M fun x M1 => qb DW p M1 fun y M2 => o x y M2 Q
@[simp] def qUn (o : DUn) (qa : DTE) : DTE := fun DW p M Q => qa DW p M fun x M1 => o x M1 Q
@[simp] def qCB (r : DCa) (qa : DTA) : DTE := fun DW p M Q => qa DW p M fun xs M1 => r xs M1 Q
section
variable {K : PySem.W.Frag} {W : WX}
theorem ref_op {r : R2} {o : DOp} {ta tb : TE} {qa qb : DTE} (hr : RefR2 K r o) (ha : RefE K W ta qa) (hb : RefE K W tb qb) : RefE K W (tOp r ta tb) (qOp o qa qb) :=
  fun DW G H p M s Q Q' hw S h k => ha DW G H p M s _ _ hw S h fun G1 H1 M1 d v e1 S1 r1 h1 =>
    hb DW G1 H1 p M1 s _ _ (hw.mono e1) S1 h1 fun G2 H2 M2 d2 v2 e2 S2 r2 h2 => hr G2 H2 p M2 s d d2 v v2 Q Q' S2 (Rep.mono e2 _ _ r1) r2 h2 fun G3 H3 M3 d w e3 => k G3 H3 M3 d w ((e1.trans e2).trans e3)
theorem ref_un {r : V → Hp → VK → Prop} {o : DUn} {ta : TE} {qa : DTE} (hr : RefU K r o) (ha : RefE K W ta qa) : RefE K W (tUn r ta) (qUn o qa) :=
  fun DW G H p M s Q Q' hw S h k => ha DW G H p M s _ _ hw S h fun G1 H1 M1 d v e1 S1 r1 h1 => hr G1 H1 p M1 s d v Q Q' S1 r1 h1 fun G3 H3 M3 d w e3 => k G3 H3 M3 d w (e1.trans e3)
theorem ref_cb {r : List V → Hp → VK → Prop} {o : DCa} {ta : TA} {qa : DTA} (hr : RefC K r o) (ha : RefA K W ta qa) : RefE K W (tCB r ta) (qCB o qa) :=
  fun DW G H p M s Q Q' hw S h k => ha DW G H p M s _ _ hw S h fun G1 H1 M1 d v e1 S1 r1 h1 => hr G1 H1 p M1 s d v Q Q' S1 r1 h1 fun G3 H3 M3 d w e3 => k G3 H3 M3 d w (e1.trans e3)
end
section
variable {X : Cx} {W : WX} {a b : Expr} {ta tb : TE} {qa qb : DTE} {pos : Pos}
theorem q_op {op : Operator} {r : R2} {o : DOp} (ho : QOp X (binaryOp op) r o) (ha : QE X W a ta qa) (hb : QE X W b tb qb) : QE X W (.BinOp a op b pos) (tOp r ta tb) (qOp o qa qb) := ⟨pe_op ho.op ha.pe hb.pe, ref_op ho.rf ha.rf hb.rf⟩
theorem q_cmp {op : CmpOp} {r : R2} {o : DOp} (ho : QOp X (compareOp op) r o) (ha : QE X W a ta qa) (hb : QE X W b tb qb) (hm : behindInMarks op b = false := by first | exact nomark _ | rfl) : QE X W (.Compare a [op] [b] pos) (tOp r ta tb) (qOp o qa qb) := ⟨pe_cmpR ho.op ha.pe hb.pe hm, ref_op ho.rf ha.rf hb.rf⟩
/-- a truth as a test -/
@[simp] def qTB (q : DTE) : DTT := fun DW p M Q => q DW p M fun d M1 => match d with | .bl b => Q b M1 | _ => False
theorem ref_tb {K : PySem.W.Frag} {t : TE} {q : DTE} (h : RefE K W t q) : RefT K W (tTest t) (qTB q) := fun DW G H p M s Q Q' hw S hq k => h DW G H p M s _ _ hw S hq fun G1 H1 M1 d v e1 S1 r1 h1 => by
  cases d with
  | bl b => cases r1; exact ⟨b, rfl, k G1 H1 M1 b e1 S1 h1⟩
  | _ => exact h1.elim
theorem ref_tb' {K : PySem.W.Frag} {t : TE} {q : DTE} (h : RefE K W t q) : RefT K W (tB t) (qTB q) := ref_tb h
theorem qt_cmp {op : CmpOp} {r : R2} {o : DOp} (ho : QOp X (compareOp op) r o) (ha : QE X W a ta qa) (hb : QE X W b tb qb) (hm : behindInMarks op b = false := by first | exact nomark _ | rfl) : QT X W (.Compare a [op] [b] pos) (tTest (tOp r ta tb)) (qTB (qOp o qa qb)) := ⟨pt_cmpR ho.op ha.pe hb.pe hm, ref_tb (ref_op ho.rf ha.rf hb.rf)⟩
theorem qt_val (ha : QE X W a ta qa) (he : ∀ whole, isTrue a X.env whole = (do let v ← whole; standAt a.pos; holding [v] (truthy v)) := by intro _; rfl) : QT X W a (tB ta) (qTB qa) := ⟨pt_val ha.pe he, ref_tb' ha.rf⟩
def qChain (o o' : DOp) (qa qb qc : DTE) : DTE := fun DW p M Q => qa DW p M fun x M1 => qb DW p M1 fun y M2 => o x y M2 fun z M3 => match z with
  | .bl k => if k = true then qc DW p M3 fun w M4 => o' y w M4 Q else Q (.bl false) M3
  | _ => False
theorem ref_chain {K : PySem.W.Frag} {r r' : R2} {o o' : DOp} {tc : TE} {qc : DTE} (hr : RefR2 K r o) (hr' : RefR2 K r' o') (ha : RefE K W ta qa) (hb : RefE K W tb qb) (hc : RefE K W tc qc) : RefE K W (tChain r r' ta tb tc) (qChain o o' qa qb qc) :=
  fun DW G H p M s Q Q' hw S h k => ha DW G H p M s _ _ hw S h fun G1 H1 M1 d v e1 S1 r1 h1 =>
    hb DW G1 H1 p M1 s _ _ (hw.mono e1) S1 h1 fun G2 H2 M2 d2 v2 e2 S2 r2 h2 => hr G2 H2 p M2 s d d2 v v2 _ _ S2 (Rep.mono e2 _ _ r1) r2 h2 fun G3 H3 M3 d3 w e3 S3 r3 h3 => by
      cases d3 with
      | bl b =>
        cases r3
        refine ⟨b, rfl, ?_⟩
        cases b with
        | false =>
          rw [if_neg Bool.false_ne_true]
          exact k G3 H3 M3 (.bl false) _ ((e1.trans e2).trans e3) S3 rfl h3
        | true =>
          rw [if_pos rfl]
          exact hc DW G3 H3 p M3 s _ _ (hw.mono ((e1.trans e2).trans e3)) S3 h3 fun G4 H4 M4 d4 v4 e4 S4 r4 h4 =>
            hr' G4 H4 p M4 s d2 d4 v2 v4 Q Q' S4 (Rep.mono (e3.trans e4) _ _ r2) r4 h4 fun G5 H5 M5 d w e5 => k G5 H5 M5 d w ((((e1.trans e2).trans e3).trans e4).trans e5)
      | _ => exact h3.elim
theorem q_chain {op op' : CmpOp} {r r' : R2} {o o' : DOp} {c : Expr} {tc : TE} {qc : DTE} (ho : QOp X (compareOp op) r o) (ho' : QOp X (compareOp op') r' o') (ha : QE X W a ta qa) (hb : QE X W b tb qb) (hc : QE X W c tc qc)
    (hm : lastMarks [op, op'] [b, c] = false := by with_unfolding_all rfl) : QE X W (.Compare a [op, op'] [b, c] pos) (tChain r r' ta tb tc) (qChain o o' qa qb qc) :=
  ⟨pe_chain ho.op ho'.op ha.pe hb.pe hc.pe hm, ref_chain ho.rf ho'.rf ha.rf hb.rf hc.rf⟩
theorem qt_chain {op op' : CmpOp} {r r' : R2} {o o' : DOp} {c : Expr} {tc : TE} {qc : DTE} (ho : QOp X (compareOp op) r o) (ho' : QOp X (compareOp op') r' o') (ha : QE X W a ta qa) (hb : QE X W b tb qb) (hc : QE X W c tc qc)
    (hm : lastMarks [op, op'] [b, c] = false := by with_unfolding_all rfl) : QT X W (.Compare a [op, op'] [b, c] pos) (tTest (tChain r r' ta tb tc)) (qTB (qChain o o' qa qb qc)) :=
  ⟨pt_chain ho.op ho'.op ha.pe hb.pe hc.pe hm, ref_tb (ref_chain ho.rf ho'.rf ha.rf hb.rf hc.rf)⟩

/-! ### and, or, not, if .. else -/
@[simp] def qAnd (qt qu : DTT) : DTT := fun DW p M Q => qt DW p M fun c M1 => if c = true then qu DW p M1 Q else Q false M1
@[simp] def qOr (qt qu : DTT) : DTT := fun DW p M Q => qt DW p M fun c M1 => if c = true then Q true M1 else qu DW p M1 Q
@[simp] def qNot (qt : DTT) : DTT := fun DW p M Q => qt DW p M fun c M1 => Q (!c) M1
variable {t u : TT} {qt qu : DTT} {rest : List Expr}
theorem qw_and1 (h : QT X W a t qt) : QW X W (.BoolOp .And [a] pos) t qt := ⟨pw_and1 h.pe, h.rf⟩
theorem qw_or1 (h : QT X W a t qt) : QW X W (.BoolOp .Or [a] pos) t qt := ⟨pw_or1 h.pe, h.rf⟩
theorem qw_and (h : QT X W a t qt) (g : QW X W (.BoolOp .And (b :: rest) pos) u qu) : QW X W (.BoolOp .And (a :: b :: rest) pos) (tAnd t u) (qAnd qt qu) :=
  ⟨pw_and h.pe g.pe, fun DW G H p M s Q Q' hw S hq k => h.rf DW G H p M s _ _ hw S hq fun G1 H1 M1 c e1 S1 h1 => by
    cases c with
    | true =>
      rw [if_pos rfl] at h1 ⊢
      exact g.rf DW G1 H1 p M1 s _ _ (hw.mono e1) S1 h1 fun G2 H2 M2 c e2 => k G2 H2 M2 c (e1.trans e2)
    | false =>
      rw [if_neg Bool.false_ne_true] at h1 ⊢
      exact k G1 H1 M1 false e1 S1 h1⟩
theorem qw_or (h : QT X W a t qt) (g : QW X W (.BoolOp .Or (b :: rest) pos) u qu) : QW X W (.BoolOp .Or (a :: b :: rest) pos) (tOr t u) (qOr qt qu) :=
  ⟨pw_or h.pe g.pe, fun DW G H p M s Q Q' hw S hq k => h.rf DW G H p M s _ _ hw S hq fun G1 H1 M1 c e1 S1 h1 => by
    cases c with
    | true =>
      rw [if_pos rfl] at h1 ⊢
      exact k G1 H1 M1 true e1 S1 h1
    | false =>
      rw [if_neg Bool.false_ne_true] at h1 ⊢
      exact g.rf DW G1 H1 p M1 s _ _ (hw.mono e1) S1 h1 fun G2 H2 M2 c e2 => k G2 H2 M2 c (e1.trans e2)⟩
theorem qt_not (h : QT X W a t qt) : QT X W (.UnaryOp .Not a pos) (tNot t) (qNot qt) :=
  ⟨pt_not h.pe, fun DW G H p M s Q Q' hw S hq k => h.rf DW G H p M s _ _ hw S hq fun G1 H1 M1 c e1 S1 h1 => k G1 H1 M1 _ e1 S1 h1⟩
/-- as values, all truths -/
@[simp] def qAndV (qa qb : DTE) : DTE := fun DW p M Q => qa DW p M fun x M1 => match x with
  | .bl c => if c = true then qb DW p M1 Q else Q (.bl false) M1
  | _ => False
@[simp] def qOrV (qa qb : DTE) : DTE := fun DW p M Q => qa DW p M fun x M1 => match x with
  | .bl c => if c = true then Q (.bl true) M1 else qb DW p M1 Q
  | _ => False
@[simp] def qNotV (qa : DTE) : DTE := fun DW p M Q => qa DW p M fun x M1 => match x with
  | .bl c => Q (.bl (!c)) M1
  | _ => False
theorem q_one {op} (h : QE X W a ta qa) : QE X W (.BoolOp op [a] pos) ta qa := ⟨pe_one h.pe, h.rf⟩
theorem q_and (h : QE X W a ta qa) (g : QE X W (.BoolOp .And (b :: rest) pos) tb qb) : QE X W (.BoolOp .And (a :: b :: rest) pos) (tAndV ta tb) (qAndV qa qb) :=
  ⟨pe_and h.pe g.pe, fun DW G H p M s Q Q' hw S hq k => h.rf DW G H p M s _ _ hw S hq fun G1 H1 M1 d v e1 S1 r1 h1 => by
    cases d with
    | bl c =>
      cases r1
      refine ⟨c, rfl, ?_⟩
      cases c with
      | true =>
        rw [if_pos rfl]
        exact g.rf DW G1 H1 p M1 s _ _ (hw.mono e1) S1 h1 fun G2 H2 M2 d v e2 => k G2 H2 M2 d v (e1.trans e2)
      | false =>
        rw [if_neg Bool.false_ne_true]
        exact k G1 H1 M1 (.bl false) _ e1 S1 rfl h1
    | _ => exact h1.elim⟩
theorem q_or (h : QE X W a ta qa) (g : QE X W (.BoolOp .Or (b :: rest) pos) tb qb) : QE X W (.BoolOp .Or (a :: b :: rest) pos) (tOrV ta tb) (qOrV qa qb) :=
  ⟨pe_or h.pe g.pe, fun DW G H p M s Q Q' hw S hq k => h.rf DW G H p M s _ _ hw S hq fun G1 H1 M1 d v e1 S1 r1 h1 => by
    cases d with
    | bl c =>
      cases r1
      refine ⟨c, rfl, ?_⟩
      cases c with
      | true =>
        rw [if_pos rfl]
        exact k G1 H1 M1 (.bl true) _ e1 S1 rfl h1
      | false =>
        rw [if_neg Bool.false_ne_true]
        exact g.rf DW G1 H1 p M1 s _ _ (hw.mono e1) S1 h1 fun G2 H2 M2 d v e2 => k G2 H2 M2 d v (e1.trans e2)
    | _ => exact h1.elim⟩
theorem q_not (h : QE X W a ta qa) : QE X W (.UnaryOp .Not a pos) (tNotV ta) (qNotV qa) :=
  ⟨pe_not h.pe, fun DW G H p M s Q Q' hw S hq k => h.rf DW G H p M s _ _ hw S hq fun G1 H1 M1 d v e1 S1 r1 h1 => by
    cases d with
    | bl c => cases r1; exact ⟨c, rfl, k G1 H1 M1 (.bl (!c)) _ e1 S1 rfl h1⟩
    | _ => exact h1.elim⟩
@[simp] def qIf (qt : DTT) (qa qb : DTE) : DTE := fun DW p M Q => qt DW p M fun c M1 => if c = true then qa DW p M1 Q else qb DW p M1 Q
theorem q_if {c : Expr} (h : QT X W c t qt) (ha : QE X W a ta qa) (hb : QE X W b tb qb) : QE X W (.IfExp c a b pos) (tIf t ta tb) (qIf qt qa qb) :=
  ⟨pe_ifExp h.pe ha.pe hb.pe, fun DW G H p M s Q Q' hw S hq k => h.rf DW G H p M s _ _ hw S hq fun G1 H1 M1 c e1 S1 h1 => by
    cases c with
    | true =>
      rw [if_pos rfl] at h1 ⊢
      exact ha.rf DW G1 H1 p M1 s _ _ (hw.mono e1) S1 h1 fun G2 H2 M2 d v e2 => k G2 H2 M2 d v (e1.trans e2)
    | false =>
      rw [if_neg Bool.false_ne_true] at h1 ⊢
      exact hb.rf DW G1 H1 p M1 s _ _ (hw.mono e1) S1 h1 fun G2 H2 M2 d v e2 => k G2 H2 M2 d v (e1.trans e2)⟩
end

/-! ### calls of built-ins -/
section
variable {X : Cx} {W : WX} {x : Str} {p pos : Pos} {e : Expr} {es : List Expr} {t : TA} {q : DTA} {id T : String} {r : List V → Hp → VK → Prop} {o : DCa}
theorem q_callB (hc : QCa X (.builtin id) r o) (hg : Gl X x) (hm : X.mg x = none) (hv : bootBuiltins x = some (.builtin id)) (ha : QA X W (e :: es) t q) (hn : x ≠ "__name__" := by decide) (hdb : (x == ("__debug__" : Str)) = false := by decide)
    (he : starEach (e :: es) X.env = (false, eval e X.env) :: starEach es X.env := by rfl) (hpl : (backTo pos (starEach es X.env)).any (·.1) = false := by rfl) : QE X W (.Call (.Name x p) (e :: es) [] pos) (tCB r t) (qCB o q) :=
  ⟨pe_callB hc.op hg hm hv ha.pe hn hdb he hpl, ref_cb hc.rf ha.rf⟩
theorem q_callTy (hc : QCa X (.type T) r o) (hg : Gl X x) (hm : X.mg x = none) (hv : bootBuiltins x = some (.type T)) (ha : QA X W (e :: es) t q) (hn : x ≠ "__name__" := by decide) (hdb : (x == ("__debug__" : Str)) = false := by decide)
    (he : starEach (e :: es) X.env = (false, eval e X.env) :: starEach es X.env := by rfl) (hpl : (backTo pos (starEach es X.env)).any (·.1) = false := by rfl) : QE X W (.Call (.Name x p) (e :: es) [] pos) (tCB r t) (qCB o q) :=
  ⟨pe_callTy hc.op hg hm hv ha.pe hn hdb he hpl, ref_cb hc.rf ha.rf⟩
end
end DL

/-! DLc: operators and built-ins by data. -/
namespace DL
open PySem L2

theorem OpR.or {X : Cx} {f : Value → Value → Sem Value} {r r' : R2} (h : OpR X f r) (h' : OpR X f r') : OpR X f (fun x y H Q => r x y H Q ∨ r' x y H Q) := by
  intro pins s σ H x y v u Q I rx ry q
  rcases q with q | q
  · exact h pins s σ H x y v u Q I rx ry q
  · exact h' pins s σ H x y v u Q I rx ry q
theorem CallR.or {X : Cx} {f : Value} {r r' : List V → Hp → VK → Prop} (h : CallR X f r) (h' : CallR X f r') : CallR X f (fun xs H Q => r xs H Q ∨ r' xs H Q) := by
  intro pins s σ H xs us Q I rs q
  rcases q with q | q
  · exact h pins s σ H xs us Q I rs q
  · exact h' pins s σ H xs us Q I rs q

/-! ### data that may be compared -/
mutual
def pyd : D → PyData
  | .non => .none
  | .bl b => .bool b
  | .int i => .int i
  | .str x => .str x
  | .tup ds => .tuple (pydL ds)
  | .ktp ds => .tuple (pydL ds)
  | .lst ds => .list (pydL ds)
  | _ => .none
def pydL : List D → List PyData
  | [] => []
  | d :: ds => pyd d :: pydL ds
end
mutual
def isData : D → Bool
  | .non => true
  | .bl _ => true
  | .int _ => true
  | .str _ => true
  | .tup ds => isDataL ds
  | .ktp ds => isDataL ds
  | .lst ds => isDataL ds
  | _ => false
def isDataL : List D → Bool
  | [] => true
  | d :: ds => isData d && isDataL ds
end
/-- how deep -/
def dep (d : D) : Nat := (pyd d).depth
mutual
theorem dp_of {K : PySem.W.Frag} {G H : Hp} (e : Same G H) : ∀ (d : D) (v : V), isData d = true → Rep K G d v → Dp K H v (pyd d)
  | .non, _, _, h => by cases h; exact .non
  | .bl b, _, _, h => by cases h; exact .bl b
  | .int i, _, _, h => by cases h; exact .int i
  | .str x, _, _, h => by obtain ⟨h, _⟩ := h; subst h; exact .str x
  | .tup ds, _, i, ⟨a, vs, h1, h2, h3, h4⟩ => by subst h1; exact .tup (.inl (.inl (e _ _ h2))) (dpl_of e ds vs i h3)
  | .ktp ds, _, i, ⟨a, vs, h1, h2, h3, h4⟩ => by subst h1; exact .tup (same_t e h2) (dpl_of e ds vs i h3)
  | .lst ds, _, i, ⟨a, vs, h1, h2, h3, h4⟩ => by subst h1; exact .lst (.inl (.inl (e _ _ h2))) (dpl_of e ds vs i h3)
  | .scr _, _, i, _ => by cases i
  | .ty _, _, i, _ => by cases i
  | .ref _, _, i, _ => by cases i
  | .dct _ _, _, i, _ => by cases i
  | .ins _ _ _, _, i, _ => by cases i
theorem dpl_of {K : PySem.W.Frag} {G H : Hp} (e : Same G H) : ∀ (ds : List D) (vs : List V), isDataL ds = true → RepL K G ds vs → DpAll K H vs (pydL ds)
  | [], _, _, h => by cases h; exact .nil
  | d :: ds, _, i, ⟨v, r, h1, h2, h3⟩ => by
    subst h1
    have i' : isData d = true ∧ isDataL ds = true := by simpa [isDataL] using i
    exact .cons (dp_of e d v i'.1 h2) (dpl_of e ds r i'.2 h3)
end
mutual
theorem lay_of {K : PySem.W.Frag} {G : Hp} : ∀ (d : D) (v : V), isData d = true → Rep K G d v → (pyd d).canLay0 = true
  | .non, _, _, _ => rfl
  | .bl b, _, _, _ => rfl
  | .int i, _, _, _ => rfl
  | .str x, _, _, h => h.2.2
  | .tup ds, _, i, ⟨a, vs, h1, h2, h3, h4⟩ => layl_of ds vs i h3
  | .ktp ds, _, i, ⟨a, vs, h1, h2, h3, h4⟩ => layl_of ds vs i h3
  | .lst ds, _, i, ⟨a, vs, h1, h2, h3, h4⟩ => layl_of ds vs i h3
  | .scr _, _, i, _ => by cases i
  | .ty _, _, i, _ => by cases i
  | .ref _, _, i, _ => by cases i
  | .dct _ _, _, i, _ => by cases i
  | .ins _ _ _, _, i, _ => by cases i
theorem layl_of {K : PySem.W.Frag} {G : Hp} : ∀ (ds : List D) (vs : List V), isDataL ds = true → RepL K G ds vs → PyData.canLayAll0 (pydL ds) = true
  | [], _, _, _ => rfl
  | d :: ds, _, i, ⟨v, r, h1, h2, h3⟩ => by
    have i' : isData d = true ∧ isDataL ds = true := by simpa [isDataL] using i
    simp only [pydL, PyData.canLayAll0, Bool.and_eq_true]
    exact ⟨lay_of d v i'.1 h2, layl_of ds r i'.2 h3⟩
end
theorem data_of {K : PySem.W.Frag} {G H : Hp} {p : Rho} {M : Mst} {s : L2.St} {d e : D} {v : V} (S : Sim K G H p M s) (r : Rep K G d v) (h : res M d = e) (i : isData e = true) : Dp K H v (pyd e) ∧ (pyd e).canLay0 = true := by
  cases d with
  | ref a =>
    cases e with
    | lst es =>
      obtain ⟨a, vs, h1, h2, h3, h4⟩ := as_lst S r h
      subst h1
      exact ⟨.lst (.inl (.inl h2)) (dpl_of S.same _ _ i h3), layl_of _ _ i h3⟩
    | _ =>
      simp only [res] at h
      split at h <;> first | (cases h; done) | (cases h; cases i)
  | ktp es =>
    cases h
    exact ⟨dp_of S.same (.ktp es) v i r, lay_of (.ktp es) v i r⟩
  | _ => cases h; exact ⟨dp_of S.same _ v i r, lay_of _ v i r⟩
def rEqX (K : PySem.W.Frag) (neg : Bool) : R2 := fun x y H Q => ∃ d e, Dp K H x d ∧ Dp K H y e ∧ d.canLay0 = true ∧ e.canLay0 = true ∧ min d.depth e.depth ≤ 64 ∧ Q (.bl (xor neg (PyData.eqv d e))) H
theorem op_eqX {X : Cx} (hu : X.A.units + 64 < cLine) : OpR X (compareOp .Eq) (rEqX X.K false) := by
  intro pins s σ H x y v u Q I rx ry h
  obtain ⟨d, e, hd, he, sd, se, hm, q⟩ := h
  obtain ⟨as, r1⟩ := Dp.reads I d x v hd rx
  obtain ⟨bs, r2⟩ := Dp.reads I e y u he ry
  refine SeqAt.compareEq_reads r1 r2 sd se (by omega) ⟨.bl _, H, I, rfl, ?_⟩
  simpa using q
theorem op_neX {X : Cx} (hu : X.A.units + 64 < cLine) : OpR X (compareOp .NotEq) (rEqX X.K true) := by
  intro pins s σ H x y v u Q I rx ry h
  obtain ⟨d, e, hd, he, sd, se, hm, q⟩ := h
  obtain ⟨as, r1⟩ := Dp.reads I d x v hd rx
  obtain ⟨bs, r2⟩ := Dp.reads I e y u he ry
  refine SeqAt.compareNe_reads r1 r2 sd se (by omega) ⟨.bl _, H, I, rfl, ?_⟩
  simpa using q
/-- == of data -/
def deq (x y : D) : Bool := PyData.eqv (pyd x) (pyd y)
def deqL (x y : List D) : Bool := PyData.eqvAll (pydL x) (pydL y)
def dEq (neg : Bool) : DOp := fun x y M Q => isData (res M x) = true ∧ isData (res M y) = true ∧ min (dep (res M x)) (dep (res M y)) ≤ 64 ∧ Q (.bl (xor neg (deq (res M x) (res M y)))) M
theorem ref_eq {K : PySem.W.Frag} {neg : Bool} : RefR2 K (rEqX K neg) (dEq neg) := fun G H p M s x y v u Q Q' S r1 r2 ⟨i1, i2, hm, q⟩ k => by
  obtain ⟨a1, a2⟩ := data_of S r1 rfl i1
  obtain ⟨b1, b2⟩ := data_of S r2 rfl i2
  exact ⟨_, _, a1, b1, a2, b2, hm, k G H M (.bl _) _ (Same.refl _) S rfl q⟩
theorem o_eq {X : Cx} (hu : X.A.units + 64 < cLine) : QOp X (compareOp .Eq) (rEqX X.K false) (dEq false) := ⟨op_eqX hu, ref_eq⟩
theorem o_ne {X : Cx} (hu : X.A.units + 64 < cLine) : QOp X (compareOp .NotEq) (rEqX X.K true) (dEq true) := ⟨op_neX hu, ref_eq⟩

/-! ### whole numbers -/
def dInt (C : Int → Int → Prop) (g : Int → Int → Int) : DOp := fun x y M Q => match x, y with
  | .int i, .int j => C i j ∧ Q (.int (g i j)) M
  | _, _ => False
theorem ref_int {K : PySem.W.Frag} {C : Int → Int → Prop} {g : Int → Int → Int} : RefR2 K (rI C fun i j => .int (g i j)) (dInt C g) := fun G H p M s x y v u Q Q' S r1 r2 h k => by
  cases x with
  | int i =>
    cases y with
    | int j => cases r1; cases r2; exact ⟨i, j, rfl, rfl, h.1, k G H M (.int (g i j)) _ (Same.refl _) S rfl h.2⟩
    | _ => exact h.elim
  | _ => exact h.elim
def dInt0 (g : Int → Int → Int) : DOp := fun x y M Q => match x, y with
  | .int i, .int j => Q (.int (g i j)) M
  | _, _ => False
theorem ref_int0 {K : PySem.W.Frag} {g : Int → Int → Int} : RefR2 K (rI0 fun i j => .int (g i j)) (dInt0 g) := fun G H p M s x y v u Q Q' S r1 r2 h k => by
  cases x with
  | int i =>
    cases y with
    | int j => cases r1; cases r2; exact ⟨i, j, rfl, rfl, k G H M (.int (g i j)) _ (Same.refl _) S rfl h⟩
    | _ => exact h.elim
  | _ => exact h.elim
theorem o_sub {X : Cx} : QOp X (binaryOp .Sub) (rI0 fun i j => .int (i - j)) (dInt0 fun i j => i - j) := ⟨op_sub, ref_int0⟩
theorem o_mulI {X : Cx} : QOp X (binaryOp .Mult) (rI CMul fun i j => .int (i * j)) (dInt CMul fun i j => i * j) := ⟨op_mul, ref_int⟩
theorem o_fdiv {X : Cx} : QOp X (binaryOp .FloorDiv) (rI CDiv fun i j => .int (i / j)) (dInt CDiv fun i j => i / j) := ⟨op_fdiv, ref_int⟩
theorem o_mod {X : Cx} : QOp X (binaryOp .Mod) (rI (fun _ j => 0 < j) fun i j => .int (i % j)) (dInt (fun _ j => 0 < j) fun i j => i % j) := ⟨op_mod, ref_int⟩
theorem o_pow {X : Cx} : QOp X (binaryOp .Pow) (rI CPow fun i j => .int (i ^ j.toNat)) (dInt CPow fun i j => i ^ j.toNat) := ⟨op_pow, ref_int⟩
/-- <, <=, >, >= of whole numbers; < of texts -/
def dCmpI (g : Int → Int → Bool) : DOp := fun x y M Q => match x, y with
  | .int i, .int j => Q (.bl (g i j)) M
  | _, _ => False
theorem ref_cmpI {K : PySem.W.Frag} {g : Int → Int → Bool} : RefR2 K (rI0 fun i j => .bl (g i j)) (dCmpI g) := fun G H p M s x y v u Q Q' S r1 r2 h k => by
  cases x with
  | int i =>
    cases y with
    | int j => cases r1; cases r2; exact ⟨i, j, rfl, rfl, k G H M (.bl (g i j)) _ (Same.refl _) S rfl h⟩
    | _ => exact h.elim
  | _ => exact h.elim
theorem o_lt {X : Cx} : QOp X (compareOp .Lt) (rI0 fun i j => .bl (decide (i < j))) (dCmpI fun i j => decide (i < j)) := ⟨op_lt, ref_cmpI⟩
theorem o_le {X : Cx} : QOp X (compareOp .LtE) (rI0 fun i j => .bl (decide (i ≤ j))) (dCmpI fun i j => decide (i ≤ j)) := ⟨op_le, ref_cmpI⟩
theorem o_gt {X : Cx} : QOp X (compareOp .Gt) (rI0 fun i j => .bl (decide (j < i))) (dCmpI fun i j => decide (j < i)) := ⟨op_gt, ref_cmpI⟩
theorem o_ge {X : Cx} : QOp X (compareOp .GtE) (rI0 fun i j => .bl (decide (j ≤ i))) (dCmpI fun i j => decide (j ≤ i)) := ⟨op_ge, ref_cmpI⟩
def dNeg : DUn := fun x M Q => match x with
  | .int i => Q (.int (-i)) M
  | _ => False
theorem ref_neg {K : PySem.W.Frag} : RefU K (rU fun i => .int (-i)) dNeg := fun G H p M s x v Q Q' S r1 h k => by
  cases x with
  | int i => cases r1; exact ⟨i, rfl, k G H M (.int (-i)) _ (Same.refl _) S rfl h⟩
  | _ => exact h.elim
theorem q_neg {X : Cx} {W : WX} {a : Expr} {ta : TE} {qa : DTE} {pos : Pos} (ha : QE X W a ta qa) : QE X W (.UnaryOp .USub a pos) (tUn (rU fun i => .int (-i)) ta) (qUn dNeg qa) := ⟨pe_un un_neg ha.pe, ref_un ref_neg ha.rf⟩

/-! ### is None -/
def isNon : D → Bool
  | .non => true
  | _ => false
theorem isNon_of {K : PySem.W.Frag} {G : Hp} {d : D} {v : V} (r : Rep K G d v) : decide (v = .non) = isNon d := by
  cases d with
  | non => cases r; rfl
  | bl b => cases r; rfl
  | int b => cases r; rfl
  | ty b => cases r; rfl
  | ref b => cases r; rfl
  | str x => obtain ⟨r, _⟩ := r; subst r; rfl
  | tup x => obtain ⟨a, vs, r, _⟩ := r; subst r; rfl
  | ktp x => obtain ⟨a, vs, r, _⟩ := r; subst r; rfl
  | lst x => obtain ⟨a, vs, r, _⟩ := r; subst r; rfl
  | scr x => obtain ⟨a, r, _⟩ := r; subst r; rfl
  | dct x y => obtain ⟨a, vs, r, _⟩ := r; subst r; rfl
  | ins x y z => obtain ⟨a, vs, fs, r, _⟩ := r; subst r; rfl
def dIs (neg : Bool) : DOp := fun x y M Q => match y with
  | .non => Q (.bl (xor neg (isNon x))) M
  | _ => False
theorem o_is {X : Cx} : QOp X (compareOp .Is) (fun x y H Q => y = .non ∧ Q (.bl (decide (x = .non))) H) (dIs false) := ⟨op_isN, fun G H p M s x y v u Q Q' S r1 r2 h k => by
  cases y with
  | non =>
    cases r2
    exact ⟨rfl, k G H M (.bl (isNon x)) _ (Same.refl _) S (by rw [isNon_of r1]; rfl) (by simpa [dIs] using h)⟩
  | _ => exact h.elim⟩
theorem o_isnot {X : Cx} : QOp X (compareOp .IsNot) (fun x y H Q => y = .non ∧ Q (.bl (!decide (x = .non))) H) (dIs true) := ⟨op_notN, fun G H p M s x y v u Q Q' S r1 r2 h k => by
  cases y with
  | non =>
    cases r2
    exact ⟨rfl, k G H M (.bl (!isNon x)) _ (Same.refl _) S (by rw [isNon_of r1]; rfl) (by simpa [dIs] using h)⟩
  | _ => exact h.elim⟩

/-! ### + -/
theorem strOk_append {a b : Str} (h1 : PyData.strOk a = true) (h2 : PyData.strOk b = true) : PyData.strOk (a ++ b) = true := by
  have e : (a ++ b).cps = a.cps ++ b.cps := rfl
  unfold PyData.strOk at *
  rw [e, Array.all_append, h1, h2]; rfl
theorem len_append {a b : Str} : (a ++ b).length = a.length + b.length := by
  show (a.cps ++ b.cps).size = _
  rw [Array.size_append]; rfl
def rAddX (K : PySem.W.Frag) : R2 := fun x y H Q => rI0 (fun i j => .int (i + j)) x y H Q ∨ (∃ i j, x = .str i ∧ y = .str j ∧ i.length + j.length ≤ sizeLine ∧ Q (.str (i ++ j)) H) ∨ rCat x y H Q ∨ rCatA K x y H Q
def dAdd (m : Bool) : DOp := fun x y M Q => match x, y with
  | .tup a, .tup b => a.length + b.length ≤ 100000 ∧ Q (.tup (a ++ b)) M
  | _, _ => match res M x, res M y with
    | .int i, .int j => Q (.int (i + j)) M
    | .str a, .str b => a.length + b.length ≤ 100000 ∧ Q (.str (a ++ b)) M
    | .lst a, .lst b => a.length + b.length ≤ 100000 ∧ newL m (a ++ b) M Q
    | _, _ => False
theorem ref_add {K : PySem.W.Frag} {m : Bool} : RefR2 K (rAddX K) (dAdd m) := fun G H p M s x y v u Q Q' S r1 r2 h k => by
  unfold dAdd at h
  split at h
  · next a b =>
    obtain ⟨a1, vs, rfl, h1, h2, h3⟩ := r1
    obtain ⟨b1, us, rfl, g1, g2, g3⟩ := r2
    have z : vs.length + us.length ≤ sizeLine := by rw [h2.length, g2.length]; exact sz1000 h.1
    refine .inr (.inr (.inr ⟨a1, b1, vs, us, rfl, rfl, .inl (.inl (S.same _ _ h1)), .inl (.inl (S.same _ _ g1)), z, fun e => ?_, fun _ e => ?_, fun _ _ q hq => newT_ok S hq (RepL.append h2 g2) (by rw [List.length_append]; exact z) h.2 k⟩))
    · have ea : a = [] := List.eq_nil_of_length_eq_zero (by rw [← h2.length, e]; rfl)
      refine k G H M (.tup b) _ (Same.refl _) S ⟨b1, us, rfl, g1, g2, g3⟩ ?_
      have := h.2; rw [ea] at this; simpa using this
    · have ea : b = [] := List.eq_nil_of_length_eq_zero (by rw [← g2.length, e]; rfl)
      refine k G H M (.tup a) _ (Same.refl _) S ⟨a1, vs, rfl, h1, h2, h3⟩ ?_
      have := h.2; rw [ea] at this; simpa using this
  · split at h
    · next i j e1 e2 =>
      cases as_int r1 e1
      cases as_int r2 e2
      exact .inl ⟨i, j, rfl, rfl, k G H M (.int (i + j)) _ (Same.refl _) S rfl h⟩
    · next a b e1 e2 =>
      obtain ⟨rfl, l1, o1⟩ := as_str r1 e1
      obtain ⟨rfl, l2, o2⟩ := as_str r2 e2
      exact .inr (.inl ⟨a, b, rfl, rfl, sz1000 h.1, k G H M (.str (a ++ b)) _ (Same.refl _) S ⟨rfl, by rw [len_append]; exact sz1000 h.1, strOk_append o1 o2⟩ h.2⟩)
    · next a b e1 e2 =>
      obtain ⟨a1, vs, rfl, h1, h2, h3⟩ := as_lst S r1 e1
      obtain ⟨b1, us, rfl, g1, g2, g3⟩ := as_lst S r2 e2
      have z : vs.length + us.length ≤ sizeLine := by rw [h2.length, g2.length]; exact sz1000 h.1
      exact .inr (.inr (.inl ⟨a1, b1, vs, us, rfl, rfl, h1, g1, z, fun q hq => newL_ok S hq (RepL.append h2 g2) (by rw [List.length_append]; exact z) h.2 k⟩))
    · exact h.elim
theorem o_add {X : Cx} (m : Bool) : QOp X (binaryOp .Add) (rAddX X.K) (dAdd m) := ⟨OpR.or op_add (OpR.or op_add_str (OpR.or op_cat op_catA)), ref_add⟩

/-! ### subscripts -/
def keyD : D → Option Key
  | .int i => some (.inl i)
  | .str x => some (.inr x)
  | _ => none
def keysD : List D → Option (List Key)
  | [] => some []
  | d :: ds => match keyD d, keysD ds with
    | some k, some ks => some (k :: ks)
    | _, _ => none
def valD {κ : Type} [DecidableEq κ] (kvs : List (κ × D)) (k : κ) : Option D := (kvs.find? fun kv => decide (kv.1 = k)).map (·.2)
/-- what a dict holds at a key; none: no dict, or no key of its kind -/
def dgetD (M : Mst) (x y : D) : Option (Option D) := match x with
  | .ref a => match M a with
    | some (.dK kvs) => (keyD y).map (valD kvs)
    | some (.lk _ kvs) => (keyD y).map (valD kvs)
    | some (.dT kvs) => match y with
      | .tup ds => (keysD ds).map (valD kvs)
      | _ => none
    | some (.lkT _ kvs) => match y with
      | .tup ds => (keysD ds).map (valD kvs)
      | _ => none
    | _ => none
  | .dct ks ds => (keyD y).map (valD (ks.zip ds))
  | _ => none
theorem keyD_of {K : PySem.W.Frag} {G : Hp} {d : D} {v : V} {k : Key} (r : Rep K G d v) (h : keyD d = some k) : v = kV k := by
  cases d with
  | int i => cases h; exact r
  | str x => cases h; exact r.1
  | _ => cases h
theorem keysD_of {K : PySem.W.Frag} {G : Hp} : ∀ {ds : List D} {vs : List V} {ks : List Key}, RepL K G ds vs → keysD ds = some ks → vs = ks.map kV
  | [], _, _, h, e => by cases h; cases e; rfl
  | d :: ds, _, ks, ⟨v, r, h1, h2, h3⟩, e => by
    simp only [keysD] at e
    split at e
    · next k ks' e1 e2 =>
      cases e
      rw [h1, keyD_of h2 e1, keysD_of h3 e2]; rfl
    · cases e
theorem valD_rel {κ : Type} [DecidableEq κ] {K : PySem.W.Frag} {G : Hp} : ∀ {kvs : List (κ × D)} {kv : List (κ × V)} (k : κ), kv.map (·.1) = kvs.map (·.1) → RepL K G (kvs.map (·.2)) (kv.map (·.2)) →
    (valD kvs k = none ∧ valV kv k = none) ∨ ∃ d v, valD kvs k = some d ∧ valV kv k = some v ∧ Rep K G d v
  | [], kv, k, h, r => by
    cases kv with
    | nil => exact .inl ⟨rfl, rfl⟩
    | cons _ _ => cases h
  | (a, d) :: kvs, kv, k, h, r => by
    cases kv with
    | nil => cases h
    | cons q kv =>
      obtain ⟨b, v⟩ := q
      simp only [List.map_cons, List.cons.injEq] at h
      obtain ⟨rfl, h⟩ := h
      obtain ⟨v', r', e, h2, h3⟩ := r
      simp only [List.map_cons, List.cons.injEq] at e
      obtain ⟨rfl, rfl⟩ := e
      by_cases z : b = k
      · exact .inr ⟨d, v, by simp [valD, z], by simp [valV, z], h2⟩
      · have := valD_rel k h h3
        simpa [valD, valV, z] using this
theorem zip_fs {α β : Type} : ∀ l : List (α × β), (l.map (·.1)).zip (l.map (·.2)) = l
  | [] => rfl
  | (a, b) :: l => by simp [zip_fs l]
@[simp] theorem zip_fs' {α β : Type} (l : List (α × β)) : (l.map (·.1)).zip (l.map (·.2)) = l := zip_fs l
theorem map_zip1 {α β : Type} : ∀ (l : List α) (m : List β), l.length = m.length → (l.zip m).map (·.1) = l
  | [], [], _ => rfl
  | a :: l, b :: m, h => by simp [map_zip1 l m (by simpa using h)]
theorem map_zip2 {α β : Type} : ∀ (l : List α) (m : List β), l.length = m.length → (l.zip m).map (·.2) = m
  | [], [], _ => rfl
  | a :: l, b :: m, h => by simp [map_zip2 l m (by simpa using h)]
theorem dgetD_of {K : PySem.W.Frag} {G H : Hp} {p : Rho} {M : Mst} {s : L2.St} {x y : D} {v u : V} {r : Option D} (S : Sim K G H p M s) (r1 : Rep K G x v) (r2 : Rep K G y u) (h : dgetD M x y = some r) :
    ∃ a o, v = .ref a ∧ DGet H a u o ∧ ((r = none ∧ o = none) ∨ ∃ d w, r = some d ∧ o = some w ∧ Rep K G d w) := by
  unfold dgetD at h
  split at h
  · next a =>
    cases r1
    split at h
    · next kvs em =>
      obtain ⟨gn, kv, h1, h2, h3, h4⟩ := S.mem _ _ em
      cases ek : keyD y with
      | none => rw [ek] at h; cases h
      | some k =>
        rw [ek] at h
        cases h
        cases keyD_of r2 ek
        exact ⟨a, _, rfl, DGet.k h1, (valD_rel k h2 h3).imp id fun ⟨d, v, a, b, c⟩ => ⟨d, v, a, b, c⟩⟩
    · next ho kvs em =>
      obtain ⟨gn, o, kv, h0, h1, h2, h3, h4⟩ := S.mem _ _ em
      rw [h0] at h1
      cases ek : keyD y with
      | none => rw [ek] at h; cases h
      | some k =>
        rw [ek] at h
        cases h
        cases keyD_of r2 ek
        exact ⟨a, _, rfl, .inl ⟨kv, k, .inr ⟨o, h1⟩, rfl, rfl⟩, (valD_rel k h2 h3).imp id fun ⟨d, v, a, b, c⟩ => ⟨d, v, a, b, c⟩⟩
    · next kvs em =>
      obtain ⟨gn, kv, h1, h2, h3, h4⟩ := S.mem _ _ em
      split at h
      · next ds =>
        obtain ⟨b, vs, rfl, g1, g2, g3⟩ := r2
        cases ek : keysD ds with
        | none => rw [ek] at h; cases h
        | some k =>
          rw [ek] at h
          cases h
          have := keysD_of g2 ek
          exact ⟨a, _, rfl, DGet.t h1 (by rw [S.same _ _ g1, this]), (valD_rel k h2 h3).imp id fun ⟨d, v, a, b, c⟩ => ⟨d, v, a, b, c⟩⟩
      · cases h
    · next ho kvs em =>
      obtain ⟨gn, o, kv, h0, h1, h2, h3, h4⟩ := S.mem _ _ em
      rw [h0] at h1
      split at h
      · next ds =>
        obtain ⟨b, vs, rfl, g1, g2, g3⟩ := r2
        cases ek : keysD ds with
        | none => rw [ek] at h; cases h
        | some k =>
          rw [ek] at h
          cases h
          have := keysD_of g2 ek
          exact ⟨a, _, rfl, .inr ⟨kv, k, b, .inr ⟨o, h1⟩, rfl, by rw [S.same _ _ g1, this], rfl⟩, (valD_rel k h2 h3).imp id fun ⟨d, v, a, b, c⟩ => ⟨d, v, a, b, c⟩⟩
      · cases h
    · cases h
  · next ks ds =>
    obtain ⟨a, kvs, rfl, h1, h2, h3, h4, _⟩ := r1
    cases ek : keyD y with
    | none => rw [ek] at h; cases h
    | some k =>
      rw [ek] at h
      cases h
      cases keyD_of r2 ek
      have hl : ks.length = ds.length := by rw [← h2, ← h3.length]; simp
      refine ⟨a, _, rfl, .inl ⟨kvs, k, same_rd S.same h1, rfl, rfl⟩, (valD_rel k (by rw [map_zip1 _ _ hl]; exact h2) (by rw [map_zip2 _ _ hl]; exact h3)).imp id fun ⟨d, v, a, b, c⟩ => ⟨d, v, a, b, c⟩⟩
  · cases h
def rIxD : R2 := fun x y H Q => ∃ a v, x = .ref a ∧ DGet H a y (some v) ∧ Q v H
theorem ix_dict {X : Cx} (hu : X.A.units + 1 < cLine) : IxR X rIxD := by
  intro value slice pins s σ H x y v u Q I rx ry h hs
  obtain ⟨a, z, rfl, g, q⟩ := h
  cases rx
  exact PyProof.Rows.tail_any (dict_typeIs I g) PySem.F.slot_dict_getitem.lookup (d_getItem hu I g ry fun w' s3 I3 rw' => ⟨z, H, I3, rw', q⟩) hs
def rIxA (K : PySem.W.Frag) : R2 := fun x y H Q => rIx K x y H Q ∨ rIxD x y H Q
def dIx : DOp := fun x y M Q => match dgetD M x y with
  | some (some d) => Q d M
  | some none => False
  | none => match res M x, y with
    | .lst ds, .int i => match atI ds i with | some d => Q d M | none => False
    | .tup ds, .int i => match atI ds i with | some d => Q d M | none => False
    | .str z, .int i => match atI z.cps.toList i with | some c => Q (.str ⟨#[c]⟩) M | none => False
    | .scr ns, .int i => match atI ns i with | some c => Q (.int c) M | none => False
    | _, _ => False
theorem as_scr {K : PySem.W.Frag} {G H : Hp} {p : Rho} {M : Mst} {s : L2.St} {x : D} {v : V} {ns : List Int} (S : Sim K G H p M s) (r : Rep K G x v) (e : res M x = .scr ns) : ∃ a, v = .ref a ∧ SqL K G a (ns.map V.int) := by
  cases x with
  | scr ms => cases e; obtain ⟨a, h1, h2, _⟩ := r; exact ⟨a, h1, h2⟩
  | ref a =>
    simp only [res] at e
    split at e <;> cases e
  | _ => cases e
theorem atI_map {α β : Type} {f : α → β} {xs : List α} {i : Int} {c : α} (h : atI xs i = some c) : atI (xs.map f) i = some (f c) := by
  unfold atI at h ⊢
  rw [List.length_map]
  cases e : ixN xs.length i with
  | none => rw [e] at h; cases h
  | some j =>
    rw [e] at h
    have h' : xs[j]? = some c := h
    show (xs.map f)[j]? = some (f c)
    rw [List.getElem?_map, h']; rfl
theorem atI_rel {K : PySem.W.Frag} {G : Hp} {ds : List D} {vs : List V} {i : Int} {d : D} (r : RepL K G ds vs) (h : atI ds i = some d) : ∃ v, atI vs i = some v ∧ Rep K G d v := by
  unfold atI at h ⊢
  rw [r.length]
  cases e : ixN ds.length i with
  | none => rw [e] at h; cases h
  | some j =>
    rw [e] at h
    exact r.get h
theorem ref_ix {K : PySem.W.Frag} : RefR2 K (rIxA K) dIx := fun G H p M s x y v u Q Q' S r1 r2 h k => by
  unfold dIx at h
  split at h
  · next d e =>
    obtain ⟨a, o, rfl, g, q⟩ := dgetD_of S r1 r2 e
    rcases q with ⟨q, _⟩ | ⟨d', w, q, rfl, r⟩
    · cases q
    · cases q
      exact .inr ⟨a, w, rfl, g, k G H M d w (Same.refl _) S r h⟩
  · exact h.elim
  · split at h
    · next ds i e1 _ =>
      obtain ⟨a, vs, rfl, h1, h2, h3⟩ := as_lst S r1 e1
      cases r2
      split at h
      · next d ea =>
        obtain ⟨w, ew, rw'⟩ := atI_rel h2 ea
        exact .inl (.inl ⟨a, vs, i, w, rfl, rfl, .inl (.inl h1), ew, k G H M d w (Same.refl _) S rw' h⟩)
      · exact h.elim
    · next ds i e1 _ =>
      obtain ⟨a, vs, rfl, h1, h2, h3⟩ := as_tup S r1 e1
      cases r2
      split at h
      · next d ea =>
        obtain ⟨w, ew, rw'⟩ := atI_rel h2 ea
        exact .inl (.inr (.inl ⟨a, vs, i, w, rfl, rfl, h1, ew, k G H M d w (Same.refl _) S rw' h⟩))
      · exact h.elim
    · next z i e1 _ =>
      obtain ⟨rfl, l1, o1⟩ := as_str r1 e1
      cases r2
      split at h
      · next c ea =>
        refine .inl (.inr (.inr ⟨z, i, c, rfl, rfl, l1, ea, k G H M (.str ⟨#[c]⟩) _ (Same.refl _) S ⟨rfl, sz1000 (by show 1 ≤ 100000; decide), ?_⟩ h⟩))
        obtain ⟨j, _, h2, _⟩ := atI_get ea
        have hm : c ∈ z.cps.toList := List.mem_of_getElem? h2
        have ho : ∀ y ∈ z.cps.toList, decide (y < 0x110000) = true := by
          unfold PyData.strOk at o1
          rw [← Array.all_toList] at o1
          exact List.all_eq_true.mp o1
        have := ho c hm
        simpa [PyData.strOk] using this
      · exact h.elim
    · next ns i e1 _ =>
      obtain ⟨a, rfl, h1⟩ := as_scr S r1 e1
      cases r2
      split at h
      · next c ea => exact .inl (.inl ⟨a, _, i, .int c, rfl, rfl, same_l S.same h1, atI_map ea, k G H M (.int c) _ (Same.refl _) S rfl h⟩)
      · exact h.elim
    · exact h.elim
theorem q_ix {X : Cx} {W : WX} {a b : Expr} {ta tb : TE} {qa qb : DTE} {pos : Pos} (hu : X.A.units + 1 < cLine) (ha : QE X W a ta qa) (hb : QE X W b tb qb) (hs : PlainIx b := by exact fun _ _ => rfl) : QE X W (.Subscript a b pos) (tOp (rIxA X.K) ta tb) (qOp dIx qa qb) :=
  ⟨pe_ix (IxR.or ix_seq (ix_dict hu)) ha.pe hb.pe hs, ref_op ref_ix ha.rf hb.rf⟩
end DL

/-! DLd: in, slices, built-ins. -/
namespace DL
open PySem L2

/-! ### in -/
def flatD : D → Bool
  | .non => true
  | .bl _ => true
  | .int _ => true
  | .str _ => true
  | _ => false
theorem flatD_of {K : PySem.W.Frag} {G : Hp} {d : D} {v : V} (r : Rep K G d v) (h : flatD d = true) : flatV v = true ∧ ∀ e w, Rep K G e w → flatD e = true → eqV w v = deq e d := by
  cases d with
  | non => cases r; exact ⟨rfl, fun e w r h => by
      cases e with
      | non => cases r; rfl
      | bl b => cases r; rfl
      | int b => cases r; rfl
      | str b => obtain ⟨r, _⟩ := r; subst r; rfl
      | _ => cases h⟩
  | bl b => cases r; exact ⟨rfl, fun e w r h => by
      cases e with
      | non => cases r; rfl
      | bl b => cases r; rfl
      | int b => cases r; rfl
      | str b => obtain ⟨r, _⟩ := r; subst r; rfl
      | _ => cases h⟩
  | int b => cases r; exact ⟨rfl, fun e w r h => by
      cases e with
      | non => cases r; rfl
      | bl b => cases r; rfl
      | int b => cases r; rfl
      | str b => obtain ⟨r, _⟩ := r; subst r; rfl
      | _ => cases h⟩
  | str b => obtain ⟨r, _⟩ := r; subst r; exact ⟨rfl, fun e w r h => by
      cases e with
      | non => cases r; rfl
      | bl b => cases r; rfl
      | int b => cases r; rfl
      | str b => obtain ⟨r, _⟩ := r; subst r; rfl
      | _ => cases h⟩
  | _ => cases h
theorem inV_of {K : PySem.W.Frag} {G : Hp} {d : D} {v : V} (r : Rep K G d v) (h : flatD d = true) : ∀ {ds : List D} {vs : List V}, RepL K G ds vs → ds.all flatD = true → vs.all flatV = true ∧ inV v vs = ds.any fun e => deq e d
  | [], _, q, _ => by cases q; exact ⟨rfl, rfl⟩
  | e :: ds, _, ⟨w, vs, e1, h2, h3⟩, f => by
    subst e1
    have f' : flatD e = true ∧ ds.all flatD = true := by simpa using f
    obtain ⟨i1, i2⟩ := inV_of r h h3 f'.2
    obtain ⟨fv, _⟩ := flatD_of h2 f'.1
    have e2 := (flatD_of r h).2 e w h2 f'.1
    refine ⟨by simp [fv, i1], ?_⟩
    have e3 : inV v (w :: vs) = (eqV w v || inV v vs) := rfl
    rw [e3, i2, e2]; rfl
def rInDk (neg : Bool) : R2 := fun y x H Q => ∃ a o, x = .ref a ∧ DGet H a y o ∧ Q (.bl (xor neg o.isSome)) H
theorem op_inDk {X : Cx} (hu : X.A.units + 1 < cLine) : OpR X (compareOp .In) (rInDk false) := by
  intro pins s σ H y x u v Q I ry rx h
  obtain ⟨a, o, rfl, g, q⟩ := h
  cases rx
  exact d_in hu I g ry fun s3 I3 => ⟨.bl o.isSome, H, I3, rfl, by simpa using q⟩
theorem op_ninDk {X : Cx} (hu : X.A.units + 1 < cLine) : OpR X (compareOp .NotIn) (rInDk true) := by
  intro pins s σ H y x u v Q I ry rx h
  obtain ⟨a, o, rfl, g, q⟩ := h
  cases rx
  exact d_notIn hu I g ry fun s3 I3 => ⟨.bl (!o.isSome), H, I3, rfl, by simpa using q⟩
def inS (c z : Str) : Bool := !(Builtin.Str.occurrences z c 0 z.length 1).isEmpty
def rInStr (neg : Bool) : R2 := fun x y H Q => ∃ i j, x = .str i ∧ y = .str j ∧ Q (.bl (xor neg (inS i j))) H
theorem op_inStr {X : Cx} : OpR X (compareOp .In) (rInStr false) := by
  intro pins s σ H y x u v Q I ry rx h
  obtain ⟨i, j, e1, e2, q⟩ := h
  exact op_in_str pins s σ H y x u v Q I ry rx ⟨i, j, e1, e2, by simpa [inS] using q⟩
theorem op_ninStr {X : Cx} : OpR X (compareOp .NotIn) (rInStr true) := by
  intro pins s σ H y x u v Q I ry rx h
  obtain ⟨i, j, e1, e2, q⟩ := h
  exact op_notIn_str pins s σ H y x u v Q I ry rx ⟨i, j, e1, e2, by simpa [inS] using q⟩
def rInX (K : PySem.W.Frag) (neg : Bool) : R2 := fun x y H Q => rIn K neg x y H Q ∨ rInDk neg x y H Q ∨ rInStr neg x y H Q
def dIn (neg : Bool) : DOp := fun x y M Q => match dgetD M y x with
  | some r => Q (.bl (xor neg r.isSome)) M
  | none => match res M y with
    | .lst ds => flatD x = true ∧ ds.all flatD = true ∧ Q (.bl (xor neg (ds.any fun e => deq e x))) M
    | .tup ds => flatD x = true ∧ ds.all flatD = true ∧ Q (.bl (xor neg (ds.any fun e => deq e x))) M
    | .str z => match x with
      | .str c => Q (.bl (xor neg (inS c z))) M
      | _ => False
    | _ => False
theorem ref_in {K : PySem.W.Frag} {neg : Bool} : RefR2 K (rInX K neg) (dIn neg) := fun G H p M s x y v u Q Q' S r1 r2 h k => by
  have nb : ∀ b : Bool, (if neg = true then !b else b) = xor neg b := fun b => by cases neg <;> cases b <;> rfl
  unfold dIn at h
  split at h
  · next r e =>
    obtain ⟨a, o, rfl, g, q⟩ := dgetD_of S r2 r1 e
    refine .inr (.inl ⟨a, o, rfl, g, k G H M (.bl _) _ (Same.refl _) S rfl ?_⟩)
    rcases q with ⟨rfl, rfl⟩ | ⟨d, w, rfl, rfl, _⟩ <;> exact h
  · split at h
    · next ds e1 =>
      obtain ⟨f1, f2, h⟩ := h
      obtain ⟨a, vs, rfl, h1, h2, h3⟩ := as_lst S r2 e1
      obtain ⟨i1, i2⟩ := inV_of r1 f1 h2 f2
      refine .inl ⟨a, vs, rfl, .inl (.inl (.inl h1)), (flatD_of r1 f1).1, i1, k G H M (.bl _) _ (Same.refl _) S rfl ?_⟩
      rw [nb, i2]; exact h
    · next ds e1 =>
      obtain ⟨f1, f2, h⟩ := h
      obtain ⟨a, vs, rfl, h1, h2, h3⟩ := as_tup S r2 e1
      obtain ⟨i1, i2⟩ := inV_of r1 f1 h2 f2
      refine .inl ⟨a, vs, rfl, .inr h1, (flatD_of r1 f1).1, i1, k G H M (.bl _) _ (Same.refl _) S rfl ?_⟩
      rw [nb, i2]; exact h
    · next z e1 =>
      obtain ⟨rfl, l1, o1⟩ := as_str r2 e1
      split at h
      · next c _ =>
        obtain ⟨rfl, _⟩ := r1
        exact .inr (.inr ⟨c, z, rfl, rfl, k G H M (.bl _) _ (Same.refl _) S rfl h⟩)
      · exact h.elim
    · exact h.elim
theorem o_in {X : Cx} (hu : X.A.units + 1 < cLine) : QOp X (compareOp .In) (rInX X.K false) (dIn false) := ⟨OpR.or op_in_seq (OpR.or (op_inDk hu) op_inStr), ref_in⟩
theorem o_notin {X : Cx} (hu : X.A.units + 1 < cLine) : QOp X (compareOp .NotIn) (rInX X.K true) (dIn true) := ⟨OpR.or op_notIn_seq (OpR.or (op_ninDk hu) op_ninStr), ref_in⟩

/-! ### slices -/
abbrev DTO := DWt → Rho → Mst → (Option Int → Mst → Prop) → Prop
def RefO (K : PySem.W.Frag) (W : WX) (t : TO) (q : DTO) : Prop := ∀ DW G H p M s (Q : Option Int → Mst → Prop) (Q' : Option Int → Hp → Prop), WLink K G DW W → Sim K G H p M s → q DW p M Q →
  (∀ G' H' M' b, Same G G' → Sim K G' H' p M' s → Q b M' → Q' b H') → t s H Q'
structure QO (X : Cx) (W : WX) (e : Option Expr) (t : TO) (q : DTO) : Prop where
  pe : PO X e t
  rf : RefO X.K W t q
@[simp] def qNoPart : DTO := fun _ _ M Q => Q none M
@[simp] def qPart (q : DTE) : DTO := fun DW p M Q => q DW p M fun d M1 => match d with | .int i => Q (some i) M1 | _ => False
def cutX {α : Type} (xs : List α) (lo hi : Option Int) : List α := (xs.drop (HT.sIx xs.length 0 lo)).take (HT.sIx xs.length xs.length hi - HT.sIx xs.length 0 lo)
def dSl (m : Bool) (x : D) (lo hi : Option Int) (M : Mst) (Q : DK) : Prop := match x with
  | .tup ds => Q (.tup (cutX ds lo hi)) M
  | _ => match res M x with
    | .lst ds => newL m (cutX ds lo hi) M Q
    | .str z => Q (.str (cutS z lo hi)) M
    | _ => False
def qSl (m : Bool) (qe : DTE) (ql qh : DTO) : DTE := fun DW p M Q => qe DW p M fun x M1 => ql DW p M1 fun l M2 => qh DW p M2 fun u M3 => dSl m x l u M3 Q
theorem strOk_cut {z : Str} {lo hi : Option Int} (h : PyData.strOk z = true) : PyData.strOk (cutS z lo hi) = true := by
  have ho : ∀ y ∈ z.cps.toList, decide (y < 0x110000) = true := by
    unfold PyData.strOk at h
    rw [← Array.all_toList] at h
    exact List.all_eq_true.mp h
  unfold PyData.strOk cutS
  rw [← Array.all_toList]
  refine List.all_eq_true.mpr fun y hy => ho y ?_
  exact List.mem_of_mem_drop (List.mem_of_mem_take (by simpa using hy))
section
variable {X : Cx} {W : WX} {e : Expr} {te : TE} {qe : DTE} {lo hi : Option Expr} {tl th : TO} {ql qh : DTO} {pos p2 : Pos}
theorem qo_none : QO X W none tNoPart qNoPart := ⟨po_none, fun DW G H p M s Q Q' hw S q k => k G H M none (Same.refl _) S q⟩
theorem qo_some (h : QE X W e te qe) : QO X W (some e) (tPart te) (qPart qe) := ⟨po_some h.pe, fun DW G H p M s Q Q' hw S q k => h.rf DW G H p M s _ _ hw S q fun G1 H1 M1 d v e1 S1 r1 h1 => by
  cases d with
  | int i => cases r1; exact ⟨i, rfl, k G1 H1 M1 _ e1 S1 h1⟩
  | _ => exact h1.elim⟩
def rSlX (K : PySem.W.Frag) : V → Option Int → Option Int → Hp → VK → Prop := fun x lo hi H Q => rSlL K x lo hi H Q ∨ rSlA K x lo hi H Q ∨ rSlS x lo hi H Q
theorem q_slice (m : Bool) (he : QE X W e te qe) (hl : QO X W lo tl ql) (hu : QO X W hi th qh) : QE X W (.Subscript e (.Slice lo hi none p2) pos) (tSl (rSlX X.K) te tl th) (qSl m qe ql qh) :=
  ⟨pe_slice (SlR.or sl_list (SlR.or sl_tupA sl_str)) he.pe hl.pe hu.pe, fun DW G H p M s Q Q' hw S h k => he.rf DW G H p M s _ _ hw S h fun G1 H1 M1 d v e1 S1 r1 h1 =>
    hl.rf DW G1 H1 p M1 s _ _ (hw.mono e1) S1 h1 fun G2 H2 M2 l e2 S2 h2 => hu.rf DW G2 H2 p M2 s _ _ (hw.mono (e1.trans e2)) S2 h2 fun G3 H3 M3 u e3 S3 h3 => by
      have r3 := Rep.mono (e2.trans e3) _ _ r1
      have k3 : ∀ G' H' M' d w, Same G3 G' → Sim X.K G' H' p M' s → Rep X.K G' d w → Q d M' → Q' w H' := fun G' H' M' d w e4 => k G' H' M' d w (((e1.trans e2).trans e3).trans e4)
      unfold dSl at h3
      split at h3
      · next ds =>
        obtain ⟨a, vs, rfl, g1, g2, g3⟩ := r3
        have g1' := S3.same _ _ g1
        have c1 : RepL X.K G3 (cutX ds l u) (cutV vs l u) := by
          unfold cutX cutV
          rw [g2.length]
          exact RepL.take _ (RepL.drop _ g2)
        have c2 := Nat.le_trans (cutV_length vs l u) g3
        refine .inr (.inl ⟨a, vs, rfl, .inl (.inl g1'), fun hwh => ?_, fun hnw q hq => newT_ok S3 hq c1 c2 h3 k3⟩)
        refine k3 G3 H3 M3 (.tup (cutX ds l u)) _ (Same.refl _) S3 ⟨a, vs, rfl, g1, ?_, g3⟩ h3
        have e5 : cutV vs l u = vs := by
          unfold cutV
          rw [hwh.1, hwh.2]
          simp
        rw [e5] at c1; exact c1
      · split at h3
        · next ds e4 =>
          obtain ⟨a, vs, rfl, g1, g2, g3⟩ := as_lst S3 r3 e4
          have c1 : RepL X.K G3 (cutX ds l u) (cutV vs l u) := by
            unfold cutX cutV
            rw [g2.length]
            exact RepL.take _ (RepL.drop _ g2)
          exact .inl ⟨a, vs, rfl, .inl (.inl g1), fun q hq => newL_ok S3 hq c1 (Nat.le_trans (cutV_length vs l u) g3) h3 k3⟩
        · next z e4 =>
          obtain ⟨rfl, l1, o1⟩ := as_str r3 e4
          exact .inr (.inr ⟨z, rfl, l1, k3 G3 H3 M3 (.str _) _ (Same.refl _) S3 ⟨rfl, Nat.le_trans (cutS_length z l u) l1, strOk_cut o1⟩ h3⟩)
        · exact h3.elim⟩
/-- xs[::-1] -/
def dRev (m : Bool) : DUn := fun x M Q => match res M x with
  | .lst ds => newL m ds.reverse M Q
  | _ => False
theorem q_rev (m : Bool) {k : Nat} {p1 p2 p3 pos : Pos} (he : QE X W e te qe) : QE X W (.Subscript e (.Slice none none (some (.UnaryOp .USub (.Constant (.int 1) k p1) p2)) p3) pos) (tRevL X.K te) (qUn (dRev m) qe) :=
  ⟨pe_revL he.pe, fun DW G H p M s Q Q' hw S h k => he.rf DW G H p M s _ _ hw S h fun G1 H1 M1 d v e1 S1 r1 h1 => by
    unfold dRev at h1
    split at h1
    · next ds e4 =>
      obtain ⟨a, vs, rfl, g1, g2, g3⟩ := as_lst S1 r1 e4
      exact ⟨a, vs, rfl, .inl (.inl g1), fun q hq => newL_ok S1 hq (RepL.reverse g2) (by rw [List.length_reverse]; exact g3) h1 fun G' H' M' d w e4 => k G' H' M' d w (e1.trans e4)⟩
    · exact h1.elim⟩
end

/-! ### len, abs, max, min, int, str, bool -/
def dLen : DCa := fun ds M Q => match ds with
  | [x] => match res M x with
    | .lst es => Q (.int es.length) M
    | .tup es => Q (.int es.length) M
    | .str z => Q (.int z.length) M
    | .scr ns => Q (.int ns.length) M
    | .dct ks es => Q (.int es.length) M
    | _ => False
  | _ => False
theorem call_lenDR {X : Cx} : CallR X (.builtin "len") (fun xs H Q => ∃ a kvs, xs = [V.ref a] ∧ Rd H a (.dK kvs) ∧ Q (.int kvs.length) H) := by
  intro pins s σ H xs us Q I r h
  obtain ⟨a, kvs, rfl, ha, q⟩ := h
  obtain ⟨u, rfl, ru⟩ := vals1 r
  cases ru
  exact d_len I ha fun t s' I' => ⟨.int kvs.length, H, I', ⟨_, rfl⟩, q⟩
def rLenX (K : PySem.W.Frag) : List V → Hp → VK → Prop := fun xs H Q => (∃ x n, xs = [x] ∧ LenV K x H n ∧ Q (.int n) H) ∨ ∃ a kvs, xs = [V.ref a] ∧ Rd H a (.dK kvs) ∧ Q (.int kvs.length) H
theorem repL1 {K : PySem.W.Frag} {G : Hp} {x : D} {vs : List V} (r : RepL K G [x] vs) : ∃ v, vs = [v] ∧ Rep K G x v := by
  obtain ⟨v, r', e, h1, h2⟩ := r
  cases h2
  exact ⟨v, e, h1⟩
theorem repL2 {K : PySem.W.Frag} {G : Hp} {x y : D} {vs : List V} (r : RepL K G [x, y] vs) : ∃ v u, vs = [v, u] ∧ Rep K G x v ∧ Rep K G y u := by
  obtain ⟨v, r', e, h1, h2⟩ := r
  obtain ⟨u, e2, h3⟩ := repL1 h2
  subst e2
  exact ⟨v, u, e, h1, h3⟩
theorem c_len {X : Cx} : QCa X (.builtin "len") (rLenX X.K) dLen := ⟨CallR.or call_len call_lenDR, fun G H p M s ds vs Q Q' S r h k => by
  unfold dLen at h
  split at h
  · next x =>
    obtain ⟨v, rfl, r1⟩ := repL1 r
    have fin : ∀ (n : Nat), Q (.int n) M → Q' (.int n) H := fun n q => k G H M (.int n) _ (Same.refl _) S rfl q
    split at h
    · next es e1 =>
      obtain ⟨a, us, rfl, g1, g2, g3⟩ := as_lst S r1 e1
      exact .inl ⟨_, es.length, rfl, .inl ⟨us, .inl (.inl g1), g2.length.symm⟩, fin _ h⟩
    · next es e1 =>
      obtain ⟨a, us, rfl, g1, g2, g3⟩ := as_tup S r1 e1
      exact .inl ⟨_, es.length, rfl, .inr ⟨us, g1, g2.length.symm⟩, fin _ h⟩
    · next z e1 =>
      obtain ⟨rfl, l1, o1⟩ := as_str r1 e1
      exact .inl ⟨_, z.length, rfl, ⟨l1, rfl⟩, fin _ h⟩
    · next ns e1 =>
      cases x with
      | scr ms =>
        cases e1
        obtain ⟨a, rfl, g1, g2⟩ := r1
        exact .inl ⟨_, ns.length, rfl, .inl ⟨_, same_l S.same g1, by simp⟩, fin _ h⟩
      | ref a =>
        simp only [res] at e1
        split at e1 <;> cases e1
      | _ => cases e1
    · next ks es e1 =>
      obtain ⟨a, us, rfl, g1, g2, g3, g4, _⟩ := as_dct S r1 e1
      refine .inr ⟨a, us, rfl, g1, ?_⟩
      have e2 : us.length = es.length := by have := g3.length; simpa using this
      rw [e2]
      exact fin _ h
    · exact h.elim
  · exact h.elim⟩
def dAbs : DCa := fun ds M Q => match ds with
  | [.int i] => Q (.int (if i < 0 then -i else i)) M
  | _ => False
theorem c_abs {X : Cx} : QCa X (.builtin "abs") (fun xs H Q => ∃ i, xs = [.int i] ∧ Q (.int (if i < 0 then -i else i)) H) dAbs := ⟨call_abs, fun G H p M s ds vs Q Q' S r h k => by
  unfold dAbs at h
  split at h
  · next i =>
    obtain ⟨v, rfl, r1⟩ := repL1 r
    cases r1
    exact ⟨i, rfl, k G H M (.int _) _ (Same.refl _) S rfl h⟩
  · exact h.elim⟩
def dMax2 : DCa := fun ds M Q => match ds with
  | [.int i, .int j] => Q (.int (if j > i then j else i)) M
  | _ => False
def dMin2 : DCa := fun ds M Q => match ds with
  | [.int i, .int j] => Q (.int (if j < i then j else i)) M
  | _ => False
theorem c_max2 {X : Cx} (hc : X.calm = true) : QCa X (.builtin "max") (fun xs H Q => ∃ i j, xs = [.int i, .int j] ∧ Q (.int (if j > i then j else i)) H) dMax2 := ⟨call_max2 hc, fun G H p M s ds vs Q Q' S r h k => by
  unfold dMax2 at h
  split at h
  · next i j =>
    obtain ⟨v, u, rfl, r1, r2⟩ := repL2 r
    cases r1
    cases r2
    exact ⟨i, j, rfl, k G H M (.int _) _ (Same.refl _) S rfl h⟩
  · exact h.elim⟩
theorem c_min2 {X : Cx} (hc : X.calm = true) : QCa X (.builtin "min") (fun xs H Q => ∃ i j, xs = [.int i, .int j] ∧ Q (.int (if j < i then j else i)) H) dMin2 := ⟨call_min2 hc, fun G H p M s ds vs Q Q' S r h k => by
  unfold dMin2 at h
  split at h
  · next i j =>
    obtain ⟨v, u, rfl, r1, r2⟩ := repL2 r
    cases r1
    cases r2
    exact ⟨i, j, rfl, k G H M (.int _) _ (Same.refl _) S rfl h⟩
  · exact h.elim⟩
/-- int(x) of a number, a truth -/
def dInt1 : DCa := fun ds M Q => match ds with
  | [.int i] => Q (.int i) M
  | [.bl b] => Q (.int (if b then 1 else 0)) M
  | _ => False
theorem c_int1 {X : Cx} : QCa X (.type "int") (fun xs H Q => (∃ i, xs = [.int i] ∧ Q (.int i) H) ∨ ∃ k, xs = [.bl k] ∧ Q (.int (if k then 1 else 0)) H) dInt1 := ⟨call_int1, fun G H p M s ds vs Q Q' S r h k => by
  unfold dInt1 at h
  split at h
  · next i =>
    obtain ⟨v, rfl, r1⟩ := repL1 r
    cases r1
    exact .inl ⟨i, rfl, k G H M (.int _) _ (Same.refl _) S rfl h⟩
  · next i =>
    obtain ⟨v, rfl, r1⟩ := repL1 r
    cases r1
    exact .inr ⟨i, rfl, k G H M (.int _) _ (Same.refl _) S rfl h⟩
  · exact h.elim⟩

/-! ### list(x), tuple(x) -/
def dList (m : Bool) : DCa := fun ds M Q => match ds with
  | [x] => match res M x with
    | .lst es => newL m es M Q
    | .tup es => newL m es M Q
    | _ => False
  | _ => False
theorem c_list {X : Cx} (m : Bool) : QCa X (.type "list") (fun xs H Q => ∃ p ys, xs = [.ref p] ∧ (SqL X.K H p ys ∨ SqT X.K H p ys) ∧ ∀ l, H l = none → Q (.ref l) (upd H l (.lst ys))) (dList m) := ⟨call_list_of, fun G H p M s ds vs Q Q' S r h k => by
  unfold dList at h
  split at h
  · next x =>
    obtain ⟨v, rfl, r1⟩ := repL1 r
    split at h
    · next es e1 =>
      obtain ⟨a, us, rfl, g1, g2, g3⟩ := as_lst S r1 e1
      exact ⟨a, us, rfl, .inl (.inl (.inl g1)), fun q hq => newL_ok S hq g2 g3 h k⟩
    · next es e1 =>
      obtain ⟨a, us, rfl, g1, g2, g3⟩ := as_tup S r1 e1
      exact ⟨a, us, rfl, .inr g1, fun q hq => newL_ok S hq g2 g3 h k⟩
    · exact h.elim
  · exact h.elim⟩
def dTuple : DCa := fun ds M Q => match ds with
  | [.tup es] => Q (.tup es) M
  | [x] => match res M x with
    | .lst es => Q (.tup es) M
    | _ => False
  | _ => False
theorem c_tuple {X : Cx} : QCa X (.type "tuple") (fun xs H Q => ∃ p ys, xs = [.ref p] ∧ ((SqL X.K H p ys ∧ ∀ l, H l = none → Q (.ref l) (upd H l (.tup ys))) ∨ (SqT X.K H p ys ∧ Q (.ref p) H))) dTuple := ⟨call_tuple_of, fun G H p M s ds vs Q Q' S r h k => by
  unfold dTuple at h
  split at h
  · next es =>
    obtain ⟨v, rfl, r1⟩ := repL1 r
    obtain ⟨a, us, rfl, g1, g2, g3⟩ := r1
    exact ⟨a, us, rfl, .inr ⟨.inl (.inl (S.same _ _ g1)), k G H M (.tup es) _ (Same.refl _) S ⟨a, us, rfl, g1, g2, g3⟩ h⟩⟩
  · next x _ =>
    obtain ⟨v, rfl, r1⟩ := repL1 r
    split at h
    · next es e1 =>
      obtain ⟨a, us, rfl, g1, g2, g3⟩ := as_lst S r1 e1
      exact ⟨a, us, rfl, .inl ⟨.inl (.inl g1), fun q hq => newT_ok S hq g2 g3 h k⟩⟩
    · exact h.elim
  · exact h.elim⟩

/-! ### all, any, sum -/
def blsD : List D → Option (List Bool)
  | [] => some []
  | .bl b :: ds => (blsD ds).map (b :: ·)
  | _ => none
def intsD : List D → Option (List Int)
  | [] => some []
  | .int b :: ds => (intsD ds).map (b :: ·)
  | _ => none
theorem blsD_of {K : PySem.W.Frag} {G : Hp} : ∀ {ds : List D} {vs : List V} {bs : List Bool}, RepL K G ds vs → blsD ds = some bs → vs = bs.map V.bl
  | [], _, _, h, e => by cases h; cases e; rfl
  | d :: ds, _, bs, ⟨v, r, h1, h2, h3⟩, e => by
    cases d with
    | bl b =>
      simp only [blsD] at e
      cases eb : blsD ds with
      | none => rw [eb] at e; cases e
      | some cs =>
        rw [eb] at e; cases e
        cases h2
        rw [h1, blsD_of h3 eb]; rfl
    | _ => simp [blsD] at e
theorem intsD_of {K : PySem.W.Frag} {G : Hp} : ∀ {ds : List D} {vs : List V} {bs : List Int}, RepL K G ds vs → intsD ds = some bs → vs = bs.map V.int
  | [], _, _, h, e => by cases h; cases e; rfl
  | d :: ds, _, bs, ⟨v, r, h1, h2, h3⟩, e => by
    cases d with
    | int b =>
      simp only [intsD] at e
      cases eb : intsD ds with
      | none => rw [eb] at e; cases e
      | some cs =>
        rw [eb] at e; cases e
        cases h2
        rw [h1, intsD_of h3 eb]; rfl
    | _ => simp [intsD] at e
@[simp] theorem blsD_map {α : Type} (f : α → Bool) : ∀ l : List α, blsD (l.map fun x => .bl (f x)) = some (l.map f)
  | [] => rfl
  | x :: l => by simp [blsD, blsD_map f l]
@[simp] theorem intsD_map {α : Type} (f : α → Int) : ∀ l : List α, intsD (l.map fun x => .int (f x)) = some (l.map f)
  | [] => rfl
  | x :: l => by simp [intsD, intsD_map f l]
def dAll : DCa := fun ds M Q => match ds with
  | [x] => match res M x with
    | .lst es => match blsD es with | some bs => Q (.bl (bs.all id)) M | none => False
    | _ => False
  | _ => False
def dAny : DCa := fun ds M Q => match ds with
  | [x] => match res M x with
    | .lst es => match blsD es with | some bs => Q (.bl (bs.any id)) M | none => False
    | _ => False
  | _ => False
theorem c_all {X : Cx} (hc : X.calm = true) : QCa X (.builtin "all") (rAll X.K) dAll := ⟨cr_all hc, fun G H p M s ds vs Q Q' S r h k => by
  unfold dAll at h
  split at h
  · next x =>
    obtain ⟨v, rfl, r1⟩ := repL1 r
    split at h
    · next es e1 =>
      obtain ⟨a, us, rfl, g1, g2, g3⟩ := as_lst S r1 e1
      split at h
      · next bs eb =>
        refine ⟨a, bs, rfl, .inl (.inl ?_), k G H M (.bl _) _ (Same.refl _) S rfl h⟩
        rw [← blsD_of g2 eb]; exact g1
      · exact h.elim
    · exact h.elim
  · exact h.elim⟩
theorem c_any {X : Cx} (hc : X.calm = true) : QCa X (.builtin "any") (rAny X.K) dAny := ⟨cr_any hc, fun G H p M s ds vs Q Q' S r h k => by
  unfold dAny at h
  split at h
  · next x =>
    obtain ⟨v, rfl, r1⟩ := repL1 r
    split at h
    · next es e1 =>
      obtain ⟨a, us, rfl, g1, g2, g3⟩ := as_lst S r1 e1
      split at h
      · next bs eb =>
        refine ⟨a, bs, rfl, .inl (.inl ?_), k G H M (.bl _) _ (Same.refl _) S rfl h⟩
        rw [← blsD_of g2 eb]; exact g1
      · exact h.elim
    · exact h.elim
  · exact h.elim⟩

/-! ### isinstance against built-in types -/
def tyD : D → String
  | .non => "NoneType"
  | .bl _ => "bool"
  | .int _ => "int"
  | .str _ => "str"
  | .tup _ => "tuple"
  | .ktp _ => "tuple"
  | .lst _ => "list"
  | .dct _ _ => "dict"
  | .scr _ => "list"
  | _ => ""
def hasTy : D → Bool
  | .ins _ _ _ => false
  | .ref _ => false
  | .ty _ => false
  | .scr _ => false
  | _ => true
/-- is a thing of the type t one of T -/
def isiB (t T : String) : Option Bool := kitB t T
def isiL (t : String) : List D → Option Bool
  | [] => some false
  | .ty T :: ds => match isiB t T, isiL t ds with
    | some a, some b => some (a || b)
    | _, _ => none
  | _ => none
def dIsi : DCa := fun ds M Q => match ds with
  | [x, .ty T] => hasTy (res M x) = true ∧ match isiB (tyD (res M x)) T with | some b => Q (.bl b) M | none => False
  | [x, .tup Ts] => hasTy (res M x) = true ∧ match isiL (tyD (res M x)) Ts with | some b => Q (.bl b) M | none => False
  | _ => False
theorem tyX_of {K : PySem.W.Frag} {G H : Hp} {p : Rho} {M : Mst} {s : L2.St} {x : D} {v : V} (S : Sim K G H p M s) (r : Rep K G x v) (h : hasTy (res M x) = true) : TyX K H v (.type (tyD (res M x))) := by
  cases e : res M x with
  | non =>
    have : x = .non := by
      cases x with
      | ref a => simp only [res] at e; split at e <;> cases e
      | _ => cases e <;> rfl
    subst this; cases r; exact .base .non
  | bl b =>
    have : x = .bl b := by
      cases x with
      | ref a => simp only [res] at e; split at e <;> cases e
      | _ => cases e <;> rfl
    subst this; cases r; exact .base (.bl _)
  | int b => cases as_int r e; exact .base (.int _)
  | str b => obtain ⟨rfl, _⟩ := as_str r e; exact .base (.str _)
  | ty b => rw [e] at h; cases h
  | ref b => rw [e] at h; cases h
  | scr b => rw [e] at h; cases h
  | ins a b c => rw [e] at h; cases h
  | ktp b =>
    cases x with
    | ref a => simp only [res] at e; split at e <;> cases e
    | _ => cases e
  | tup ds =>
    cases x with
    | ref a => simp only [res] at e; split at e <;> cases e
    | tup es =>
      cases e
      obtain ⟨a, us, rfl, g1, g2, g3⟩ := r
      exact .base (.tup (S.same _ _ g1))
    | ktp es =>
      cases e
      obtain ⟨a, us, rfl, g1, g2, g3⟩ := r
      rcases g1 with (g1 | ⟨o, g1⟩) | ⟨o, its, n, hk, hc, _⟩
      · exact .base (.tup (S.same _ _ g1))
      · exact .fTuple (S.same _ _ g1)
      · exact .kTuple hk hc
    | _ => cases e
  | lst ds =>
    obtain ⟨a, us, rfl, g1, g2, g3⟩ := as_lst S r e
    exact .base (.lst g1)
  | dct ks ds =>
    obtain ⟨a, us, rfl, g1, g2, g3, g4, _⟩ := as_dct S r e
    rcases g1 with g1 | ⟨o, g1⟩
    · exact .base (.dK g1)
    · exact .fDict g1
theorem isiL_of {K : PySem.W.Frag} {G : Hp} {t : String} : ∀ {ds : List D} {vs : List V} {b : Bool}, RepL K G ds vs → isiL t ds = some b → ∃ us, Paired ClsV vs us ∧ PySem.W.kitAny K (.type t) us = some b
  | [], _, b, h, e => by cases h; cases e; exact ⟨[], .nil, kitAny_nil⟩
  | d :: ds, _, b, ⟨v, r, h1, h2, h3⟩, e => by
    cases d with
    | ty T =>
      simp only [isiL] at e
      split at e
      · next a c e1 e2 =>
        cases e
        cases h2
        subst h1
        obtain ⟨us, q1, q2⟩ := isiL_of h3 e2
        refine ⟨.type T :: us, .cons (.ty T) q1, kitAny_cons (kit_ty e1) (fun ha => ?_) fun ha => ?_⟩
        · rw [q2, ha]; rfl
        · rw [ha]; rfl
      · cases e
    | _ => simp [isiL] at e
def rIsiX (K : PySem.W.Frag) : List V → Hp → VK → Prop := fun xs H Q => rIsi K xs H Q ∨ rIsiT K xs H Q
theorem c_isi {X : Cx} : QCa X (.builtin "isinstance") (rIsiX X.K) dIsi := ⟨CallR.or call_isi call_isiT, fun G H p M s ds vs Q Q' S r h k => by
  unfold dIsi at h
  split at h
  · next x T =>
    obtain ⟨v, u, rfl, r1, r2⟩ := repL2 r
    cases r2
    obtain ⟨ht, h⟩ := h
    split at h
    · next b e => exact .inl ⟨_, _, _, _, b, rfl, .ty T, tyX_of S r1 ht, kit_ty e, k G H M (.bl b) _ (Same.refl _) S rfl h⟩
    · exact h.elim
  · next x Ts =>
    obtain ⟨v, u, rfl, r1, r2⟩ := repL2 r
    obtain ⟨a, us, rfl, g1, g2, g3⟩ := r2
    obtain ⟨ht, h⟩ := h
    split at h
    · next b e =>
      obtain ⟨ws, q1, q2⟩ := isiL_of g2 e
      exact .inr ⟨_, a, us, _, ws, b, rfl, S.same _ _ g1, q1, tyX_of S r1 ht, q2, k G H M (.bl b) _ (Same.refl _) S rfl h⟩
    · exact h.elim
  · exact h.elim⟩
end DL

/-! DLe: statements, targets, loops, comprehensions. -/
namespace DL
open PySem L2

/-! ### blocks -/
@[simp] def qNext : DTS := fun _ DE p M => DE.nx p M
@[simp] def qSeq (q1 q2 : DTS) : DTS := fun DW DE p M => q1 DW { DE with nx := q2 DW DE } p M
@[simp] def qDrop (q : DTE) : DTS := fun DW DE p M => q DW p M fun _ M1 => DE.nx p M1
@[simp] def qRet (q : DTE) : DTS := fun DW DE p M => q DW p M fun d M1 => DE.rt d M1
@[simp] def qRetN : DTS := fun _ DE p M => DE.rt .non M
@[simp] def qIfS (c : DTT) (a b : DTS) : DTS := fun DW DE p M => c DW p M fun k M1 => if k = true then a DW DE p M1 else b DW DE p M1
def qNever : DTS := fun _ _ _ _ => False
@[simp] def qBreak : DTS := fun _ DE p M => DE.bk p M
@[simp] def qCont : DTS := fun _ DE p M => DE.ct p M
section
variable {X : Cx} {W : WX} {st : Stmt} {rest : List Stmt} {t u : TS} {q r : DTS} {e : Expr} {te : TE} {qe : DTE} {pos : Pos}
theorem qss_nil : QSs X W [] tNext qNext := ⟨pss_nil, fun DW G H p M s DE E hw S h k => k.nx G H p M s (Same.refl _) S h⟩
theorem qss_cons (h1 : QS X W st t q) (h2 : QSs X W rest u r) : QSs X W (st :: rest) (tSeq t u) (qSeq q r) :=
  ⟨pss_cons h1.pe h2.pe, fun DW G H p M s DE E hw S h k => h1.rf DW G H p M s _ _ hw S h
    ⟨fun G' H' p' M' s' e1 S' h' => h2.rf DW G' H' p' M' s' DE E (hw.mono e1) S' h' (k.mono e1), k.rt, k.bk, k.ct⟩⟩
theorem qss_one (h1 : QS X W st t q) : QSs X W [st] t q := ⟨pss_one h1.pe, h1.rf⟩
theorem qs_pass : QS X W (.Pass pos) tNext qNext := ⟨ps_pass, fun DW G H p M s DE E hw S h k => k.nx G H p M s (Same.refl _) S h⟩
theorem qs_break : QS X W (.Break pos) tBreak qBreak := ⟨ps_break, fun DW G H p M s DE E hw S h k => k.bk G H p M s (Same.refl _) S h⟩
theorem qs_continue : QS X W (.Continue pos) tCont qCont := ⟨ps_continue, fun DW G H p M s DE E hw S h k => k.ct G H p M s (Same.refl _) S h⟩
theorem qs_expr (he : QE X W e te qe) (hs : swapsWith e none pos.line X.env = pure false := by rfl) : QS X W (.Expr e pos) (tDrop te) (qDrop qe) :=
  ⟨ps_expr he.pe hs, fun DW G H p M s DE E hw S h k => he.rf DW G H p M s _ _ hw S h fun G1 H1 M1 d v e1 S1 r1 h1 => k.nx G1 H1 p M1 s e1 S1 h1⟩
theorem qs_ret (he : QE X W e te qe) : QS X W (.Return (some e) pos) (tRet te) (qRet qe) :=
  ⟨ps_ret he.pe, fun DW G H p M s DE E hw S h k => he.rf DW G H p M s _ _ hw S h fun G1 H1 M1 d v e1 S1 r1 h1 => k.rt G1 H1 p M1 s d v e1 S1 r1 h1⟩
theorem qs_retN : QS X W (.Return none pos) tRetN qRetN := ⟨ps_retN, fun DW G H p M s DE E hw S h k => k.rt G H p M s .non .non (Same.refl _) S rfl h⟩
theorem qs_if {c : Expr} {a b : List Stmt} {tc : TT} {qc : DTT} (hc : QT X W c tc qc) (ha : QSs X W a t q) (hb : QSs X W b u r) : QS X W (.If c a b pos) (tIfS tc t u) (qIfS qc q r) :=
  ⟨ps_if hc.pe ha.pe hb.pe, fun DW G H p M s DE E hw S h k => hc.rf DW G H p M s _ _ hw S h fun G1 H1 M1 c e1 S1 h1 => by
    cases c with
    | true =>
      rw [if_pos rfl] at h1 ⊢
      exact ha.rf DW G1 H1 p M1 s DE E (hw.mono e1) S1 h1 (k.mono e1)
    | false =>
      rw [if_neg Bool.false_ne_true] at h1 ⊢
      exact hb.rf DW G1 H1 p M1 s DE E (hw.mono e1) S1 h1 (k.mono e1)⟩
theorem qs_never : QS X W st tNever qNever := ⟨ps_never, fun DW G H p M s DE E hw S h k => h.elim⟩
theorem qss_never {sts : List Stmt} : QSs X W sts tNever qNever := ⟨pss_never, fun DW G H p M s DE E hw S h k => h.elim⟩
end

/-! ### targets: which slots they store -/
def Only (ix : List Nat) (s s' : L2.St) : Prop := s'.length = s.length ∧ ∀ j, j ∉ ix → s'[j]? = s[j]?
theorem Only.refl (ix : List Nat) (s : L2.St) : Only ix s s := ⟨rfl, fun _ _ => rfl⟩
theorem Only.trans {ix : List Nat} {s s1 s2 : L2.St} (a : Only ix s s1) (b : Only ix s1 s2) : Only ix s s2 := ⟨b.1.trans a.1, fun j h => (b.2 j h).trans (a.2 j h)⟩
theorem Only.mono {ix iy : List Nat} {s s1 : L2.St} (a : Only ix s s1) (h : ∀ j ∈ ix, j ∈ iy) : Only iy s s1 := ⟨a.1, fun j hj => a.2 j fun z => hj (h j z)⟩
theorem Only.set {ix : List Nat} {s : L2.St} {i : Nat} {v : Option V} (h : i ∈ ix) : Only ix s (s.set i v) := ⟨by simp, fun j hj => List.getElem?_set_ne (fun z => hj (by rw [← z]; exact h))⟩
theorem wipe_get {s : L2.St} {j : Nat} : ∀ {vs : List Nat}, j ∉ vs → (wipe s vs)[j]? = s[j]?
  | [], _ => rfl
  | v :: vs, h => by
    simp only [List.mem_cons, not_or] at h
    unfold wipe
    rw [List.getElem?_set_ne (Ne.symm h.1)]
    exact wipe_get h.2
theorem wipe_in {s : L2.St} {j : Nat} : ∀ {vs : List Nat}, j ∈ vs → j < s.length → (wipe s vs)[j]? = some none
  | [], h, _ => by cases h
  | v :: vs, h, hl => by
    unfold wipe
    by_cases e : v = j
    · subst e
      rw [List.getElem?_set_self (by rw [wipe_length]; exact hl)]
    · rw [List.getElem?_set_ne e]
      exact wipe_in (by rcases List.mem_cons.mp h with q | q; exact absurd q.symm e; exact q) hl
theorem Only.wipe {ix : List Nat} {s s' : L2.St} (h : Only ix s s') : L2.wipe s' ix = L2.wipe s ix := by
  apply List.ext_getElem?
  intro j
  by_cases hj : j ∈ ix
  · by_cases hl : j < s.length
    · rw [wipe_in hj hl, wipe_in hj (by rw [h.1]; exact hl)]
    · rw [List.getElem?_eq_none (by rw [wipe_length, h.1]; omega), List.getElem?_eq_none (by rw [wipe_length]; omega)]
  · rw [wipe_get hj, wipe_get hj]; exact h.2 j hj
def RefGi (K : PySem.W.Frag) (W : WX) (ix : List Nat) (t : TG) (q : DTG) : Prop := ∀ DW G H p M s d v (Q : Rho → Mst → Prop) (Q' : L2.St → Hp → Prop), WLink K G DW W → Sim K G H p M s → Rep K G d v → q d DW p M Q →
  (∀ G' H' p' M' s', Same G G' → Sim K G' H' p' M' s' → Only ix s s' → Q p' M' → Q' s' H') → t v s H Q'
def RefGis (K : PySem.W.Frag) (W : WX) (ix : List Nat) (t : TGs) (q : DTGs) : Prop := ∀ DW G H p M s ds vs (Q : Rho → Mst → Prop) (Q' : L2.St → Hp → Prop), WLink K G DW W → Sim K G H p M s → RepL K G ds vs → q ds DW p M Q →
  (∀ G' H' p' M' s', Same G G' → Sim K G' H' p' M' s' → Only ix s s' → Q p' M' → Q' s' H') → t vs s H Q'
structure QGi (X : Cx) (W : WX) (ix : List Nat) (tg : Expr) (t : TG) (q : DTG) : Prop where
  pe : PG X tg t
  rf : RefGi X.K W ix t q
structure QGis (X : Cx) (W : WX) (ix : List Nat) (tg : List Expr) (t : TGs) (q : DTGs) : Prop where
  pe : PGs X tg t
  rf : RefGis X.K W ix t q
section
variable {K : PySem.W.Frag} {G H : Hp} {p : Rho} {M : Mst} {s : L2.St} {d : D} {v : V}
theorem Sim.set (S : Sim K G H p M s) (i : Nat) (r : Rep K G d v) : Sim K G H (p.set i (some d)) M (s.set i (some v)) := by
  refine ⟨S.same, fun j e h => ?_, by simp [S.len], S.mem⟩
  by_cases hj : i = j
  · subst hj
    by_cases hl : i < p.length
    · rw [List.getElem?_set_self hl] at h
      cases h
      exact ⟨v, by rw [List.getElem?_set_self (by rw [S.len]; exact hl)], r⟩
    · rw [List.getElem?_eq_none (by simpa using hl)] at h
      cases h
  · rw [List.getElem?_set_ne hj] at h ⊢
    exact S.env j e h
/-- a name is forgotten -/
theorem Sim.forget (S : Sim K G H p M s) (i : Nat) (v : Option V) : Sim K G H (p.set i none) M (s.set i v) := by
  refine ⟨S.same, fun j e h => ?_, by simp [S.len], S.mem⟩
  by_cases hj : i = j
  · subst hj
    by_cases hl : i < p.length
    · rw [List.getElem?_set_self hl] at h
      cases h
    · rw [List.getElem?_eq_none (by simpa using hl)] at h
      cases h
  · rw [List.getElem?_set_ne hj] at h ⊢
    exact S.env j e h
end
def wipeD (p : Rho) : List Nat → Rho
  | [] => p
  | v :: vs => (wipeD p vs).set v none
theorem Sim.wipe {K : PySem.W.Frag} {G H : Hp} {p : Rho} {M : Mst} {s : L2.St} (S : Sim K G H p M s) : ∀ vs : List Nat, Sim K G H (wipeD p vs) M (L2.wipe s vs)
  | [] => S
  | v :: vs => (Sim.wipe S vs).forget v none
@[simp] def gNameD (i : Nat) : DTG := fun d _ p M Q => Q (p.set i (some d)) M
@[simp] def gNilD : DTGs := fun ds _ p M Q => ds = [] ∧ Q p M
@[simp] def gConsD (g : DTG) (gs : DTGs) : DTGs := fun ds DW p M Q => match ds with
  | d :: r => g d DW p M fun p1 M1 => gs r DW p1 M1 Q
  | [] => False
def gTupD (n : Nat) (gs : DTGs) : DTG := fun d DW p M Q => match res M d with
  | .tup ds => ds.length = n ∧ gs ds DW p M Q
  | _ => False
/-- o[i] = v by values -/
def putD {κ : Type} [DecidableEq κ] (kvs : List (κ × D)) (k : κ) (v : D) : List (κ × D) :=
  if kvs.any (fun kv => decide (kv.1 = k)) then kvs.map (fun kv => if kv.1 = k then (kv.1, v) else kv) else kvs ++ [(k, v)]
def dSet (o i v : D) (M : Mst) (Q : Mst → Prop) : Prop := match o with
  | .ref a => match M a with
    | some (.lst ds) => match i with
      | .int k => match ixN ds.length k with
        | some j => Q (put M a (.lst (ds.set j v)))
        | none => False
      | _ => False
    | some (.dK kvs) => match keyD i with
      | some k => kvs.length < 100000 ∧ Q (put M a (.dK (putD kvs k v)))
      | none => False
    | some (.dT kvs) => match i with
      | .tup ks => match keysD ks with
        | some k => kvs.length < 100000 ∧ Q (put M a (.dT (putD kvs k v)))
        | none => False
      | _ => False
    | _ => False
  | _ => False
def gSubD (qo qi : DTE) : DTG := fun d DW p M Q => qo DW p M fun o M1 => qi DW p M1 fun i M2 => dSet o i d M2 fun M3 => Q p M3
section
variable {X : Cx} {W : WX} {x : Str} {pos : Pos}
theorem qg_name {i : Nat} {ix : List Nat} (h : PG X (.Name x pos) (gName i)) (hm : i ∈ ix) : QGi X W ix (.Name x pos) (gName i) (gNameD i) :=
  ⟨h, fun DW G H p M s d v Q Q' hw S r q k => k G H _ M _ (Same.refl _) (S.set i r) (Only.set hm) q⟩
theorem qgs_nil {ix : List Nat} : QGis X W ix [] gNil gNilD := ⟨pgs_nil, fun DW G H p M s ds vs Q Q' hw S r ⟨e, q⟩ k => by
  subst e; cases r; exact ⟨rfl, k G H p M s (Same.refl _) S (Only.refl _ _) q⟩⟩
theorem qgs_cons {ix : List Nat} {e : Expr} {es : List Expr} {t : TG} {q : DTG} {u : TGs} {r : DTGs} (h1 : QGi X W ix e t q) (h2 : QGis X W ix es u r) (hs : (assignEach (e :: es) X.env).map (·.2) = assign e X.env :: (assignEach es X.env).map (·.2) := by rfl) :
    QGis X W ix (e :: es) (gCons t u) (gConsD q r) := ⟨pgs_cons h1.pe h2.pe hs, fun DW G H p M s ds vs Q Q' hw S rr h k => by
  cases ds with
  | nil => exact h.elim
  | cons d ds =>
    obtain ⟨v, vr, e1, r1, r2⟩ := rr
    exact ⟨v, vr, e1, h1.rf DW G H p M s d v _ _ hw S r1 h fun G1 H1 p1 M1 s1 e1 S1 o1 h1 => h2.rf DW G1 H1 p1 M1 s1 ds vr Q Q' (hw.mono e1) S1 (RepL.mono e1 _ _ r2) h1
      fun G2 H2 p2 M2 s2 e2 S2 o2 h2 => k G2 H2 p2 M2 s2 (e1.trans e2) S2 (o1.trans o2) h2⟩⟩
theorem qg_tup {ix : List Nat} {es : List Expr} {kk : Nat} {t : TGs} {q : DTGs} {n : Nat} (hc : X.calm = true) (h : QGis X W ix es t q) (hn : (assignEach es X.env).length = n := by rfl) (hst : (assignEach es X.env).findIdx? (·.1) = none := by rfl) :
    QGi X W ix (.Tuple es kk pos) (gTup X.K n t) (gTupD n q) := ⟨pg_tup hc h.pe hn hst, fun DW G H p M s d v Q Q' hw S r hq k => by
  unfold gTupD at hq
  split at hq
  · next ds e1 =>
    obtain ⟨hl, hq⟩ := hq
    obtain ⟨a, vs, rfl, g1, g2, g3⟩ := as_tup S r e1
    exact ⟨a, vs, rfl, g1, g2.length.trans hl, h.rf DW G H p M s ds vs Q Q' hw S g2 hq k⟩
  · exact hq.elim⟩
theorem set_dict (hu : X.A.units + 1 < cLine) : PSet X (fun o i v H Q => ∃ a H4, o = .ref a ∧ DPut H a i v H4 ∧ Q H4) := by
  intro pins s σ H o i v ov iv u Q I ro ri rv h
  obtain ⟨a, H4, rfl, g, q⟩ := h
  cases ro
  exact d_setItem hu I g ri rv fun s' I' => ⟨H4, I', q⟩
def rSetX : TSet := fun o i v H Q => rSetL o i v H Q ∨ ∃ a H4, o = .ref a ∧ DPut H a i v H4 ∧ Q H4
theorem set_any (hu : X.A.units + 1 < cLine) : PSet X rSetX := by
  intro pins s σ H o i v ov iv u Q I ro ri rv h
  rcases h with h | h
  · exact set_list pins s σ H o i v ov iv u Q I ro ri rv h
  · exact set_dict hu pins s σ H o i v ov iv u Q I ro ri rv h
theorem any_key {κ : Type} [DecidableEq κ] {kvs : List (κ × D)} {kv : List (κ × V)} {k : κ} (h : kv.map (·.1) = kvs.map (·.1)) : kv.any (fun q => decide (q.1 = k)) = kvs.any (fun q => decide (q.1 = k)) := by
  have e1 : kv.any (fun q => decide (q.1 = k)) = (kv.map (·.1)).any (fun q => decide (q = k)) := by rw [List.any_map]; rfl
  have e2 : kvs.any (fun q => decide (q.1 = k)) = (kvs.map (·.1)).any (fun q => decide (q = k)) := by rw [List.any_map]; rfl
  rw [e1, e2, h]
theorem putMap_rel {K : PySem.W.Frag} {G : Hp} {κ : Type} [DecidableEq κ] {k : κ} {d : D} {v : V} (rd : Rep K G d v) : ∀ {kvs : List (κ × D)} {kv : List (κ × V)}, kv.map (·.1) = kvs.map (·.1) → RepL K G (kvs.map (·.2)) (kv.map (·.2)) →
    (kv.map fun q => if q.1 = k then (q.1, v) else q).map (·.1) = (kvs.map fun q => if q.1 = k then (q.1, d) else q).map (·.1) ∧ RepL K G ((kvs.map fun q => if q.1 = k then (q.1, d) else q).map (·.2)) ((kv.map fun q => if q.1 = k then (q.1, v) else q).map (·.2))
  | [], [], _, _ => ⟨rfl, rfl⟩
  | [], _ :: _, h, _ => by cases h
  | _ :: _, [], h, _ => by cases h
  | (a, e) :: kvs, (b, w) :: kv, h, r => by
    simp only [List.map_cons, List.cons.injEq] at h
    obtain ⟨rfl, h⟩ := h
    obtain ⟨v', r', e1, h2, h3⟩ := r
    simp only [List.map_cons, List.cons.injEq] at e1
    obtain ⟨rfl, rfl⟩ := e1
    obtain ⟨i1, i2⟩ := putMap_rel rd h h3
    by_cases z : b = k
    · simp only [List.map_cons, z, if_true]
      exact ⟨by rw [i1], RepL.cons rd i2⟩
    · simp only [List.map_cons, z, if_false]
      exact ⟨by rw [i1], RepL.cons h2 i2⟩
theorem put_rel {K : PySem.W.Frag} {G : Hp} {κ : Type} [DecidableEq κ] {kvs : List (κ × D)} {kv : List (κ × V)} {k : κ} {d : D} {v : V} (h : kv.map (·.1) = kvs.map (·.1)) (r : RepL K G (kvs.map (·.2)) (kv.map (·.2))) (rd : Rep K G d v) :
    (putK kv k v).map (·.1) = (putD kvs k d).map (·.1) ∧ RepL K G ((putD kvs k d).map (·.2)) ((putK kv k v).map (·.2)) ∧ (putK kv k v).length ≤ kv.length + 1 := by
  unfold putK putD
  rw [any_key h]
  cases kvs.any (fun q => decide (q.1 = k)) with
  | true =>
    simp only [if_true]
    obtain ⟨i1, i2⟩ := putMap_rel (k := k) rd h r
    exact ⟨i1, i2, by simp⟩
  | false =>
    simp only [Bool.false_eq_true, if_false]
    refine ⟨by simp [h], ?_, by simp⟩
    rw [List.map_append, List.map_append]
    exact RepL.append r (RepL.cons rd rfl)
theorem kOk_of {K : PySem.W.Frag} {G : Hp} {d : D} {v : V} {k : Key} (r : Rep K G d v) (h : keyD d = some k) : kOk k := by
  cases d with
  | int i => cases h; trivial
  | str x => cases h; exact r.2
  | _ => cases h
theorem kOks_of {K : PySem.W.Frag} {G : Hp} : ∀ {ds : List D} {vs : List V} {ks : List Key}, RepL K G ds vs → keysD ds = some ks → ks.length = ds.length ∧ ∀ k ∈ ks, kOk k
  | [], _, _, h, e => by cases h; cases e; exact ⟨rfl, fun _ h => by cases h⟩
  | d :: ds, _, ks, ⟨v, r, h1, h2, h3⟩, e => by
    simp only [keysD] at e
    split at e
    · next k ks' e1 e2 =>
      cases e
      obtain ⟨i1, i2⟩ := kOks_of h3 e2
      refine ⟨by simp [i1], fun q hq => ?_⟩
      rcases List.mem_cons.mp hq with rfl | hq
      · exact kOk_of h2 e1
      · exact i2 q hq
    · cases e
theorem putD_keys {κ : Type} [DecidableEq κ] {P : κ → Prop} {kvs : List (κ × D)} {k : κ} {d : D} (h : ∀ q ∈ kvs, P q.1) (hk : P k) : ∀ q ∈ putD kvs k d, P q.1 := by
  intro q hq
  unfold putD at hq
  split at hq
  · obtain ⟨r, h1, h2⟩ := List.mem_map.mp hq
    subst h2
    split
    · exact h r h1
    · exact h r h1
  · rcases List.mem_append.mp hq with hq | hq
    · exact h q hq
    · have : q = (k, d) := by simpa using hq
      subst this; exact hk
theorem qg_sub {ix : List Nat} {o i : Expr} {to ti : TE} {qo qi : DTE} (hu : X.A.units + 1 < cLine) (ho : QE X W o to qo) (hi : QE X W i ti qi)
    (ha : ∀ v, assign (.Subscript o i pos) X.env v = (do
      let ov ← holding [v] (eval o X.env)
      let iv ← holding [v, ov] (eval i X.env)
      standAt pos
      holding [v, ov, iv] (setItem ov iv v)
      release [v, ov, iv] []) := by intro _; rfl) : QGi X W ix (.Subscript o i pos) (gSub to ti rSetX) (gSubD qo qi) :=
  ⟨pg_sub ho.pe hi.pe (set_any hu) ha, fun DW G H p M s d v Q Q' hw S r h k => ho.rf DW G H p M s _ _ hw S h fun G1 H1 M1 x xv e1 S1 r1 h1 =>
    hi.rf DW G1 H1 p M1 s _ _ (hw.mono e1) S1 h1 fun G2 H2 M2 y yv e2 S2 r2 h2 => by
      have r' := Rep.mono (e1.trans e2) _ _ r
      have r1' := Rep.mono e2 _ _ r1
      unfold dSet at h2
      split at h2
      · next a =>
        cases r1'
        split at h2
        · next ds em =>
          obtain ⟨gn, vs, g1, g2, g3⟩ := S2.mem _ _ em
          split at h2
          · next n =>
            cases r2
            split at h2
            · next j ej =>
              refine .inl ⟨a, vs, n, j, rfl, rfl, g1, by rw [g2.length]; exact ej, ?_⟩
              exact k G2 _ p _ s (e1.trans e2) (S2.put (mo := .lst (ds.set j d)) gn ⟨_, upd_same, RepL.set j g2 r', by simpa using g3⟩) (Only.refl _ _) h2
            · exact h2.elim
          · exact h2.elim
        · next kvs em =>
          obtain ⟨gn, kv, g1, g2, g3, g4, g5⟩ := S2.mem _ _ em
          split at h2
          · next kk ek =>
            have kk1 := kOk_of r2 ek
            obtain ⟨hl, h2⟩ := h2
            cases keyD_of r2 ek
            have hl' : kv.length < sizeLine := by
              have e5 : kv.length = kvs.length := by have := congrArg List.length g2; simpa using this
              rw [sizeLine_eq]; omega
            obtain ⟨p1, p2, p3⟩ := put_rel (k := kk) g2 g3 r'
            refine .inr ⟨a, _, rfl, DPut.k g1 hl', ?_⟩
            exact k G2 _ p _ s (e1.trans e2) (S2.put (mo := .dK (putD kvs kk d)) gn ⟨_, upd_same, p1, p2, by omega, putD_keys g5 kk1⟩) (Only.refl _ _) h2
          · exact h2.elim
        · next kvs em =>
          obtain ⟨gn, kv, g1, g2, g3, g4, g5⟩ := S2.mem _ _ em
          split at h2
          · next ks =>
            split at h2
            · next kk ek =>
              obtain ⟨hl, h2⟩ := h2
              obtain ⟨b, ws, rfl, c1, c2, c3⟩ := r2
              have e6 := keysD_of c2 ek
              obtain ⟨kl, kk1⟩ := kOks_of c2 ek
              have kl' : kk.length ≤ sizeLine := by rw [kl, ← c2.length]; exact c3
              have hl' : kv.length < sizeLine := by
                have e5 : kv.length = kvs.length := by have := congrArg List.length g2; simpa using this
                rw [sizeLine_eq]; omega
              obtain ⟨p1, p2, p3⟩ := put_rel (k := kk) g2 g3 r'
              refine .inr ⟨a, _, rfl, DPut.t g1 (by rw [S2.same _ _ c1, e6]) hl', ?_⟩
              exact k G2 _ p _ s (e1.trans e2) (S2.put (mo := .dT (putD kvs kk d)) gn ⟨_, upd_same, p1, p2, by omega, putD_keys (P := fun k => k.length ≤ sizeLine ∧ ∀ x ∈ k, kOk x) g5 ⟨kl', kk1⟩⟩) (Only.refl _ _) h2
            · exact h2.elim
          · exact h2.elim
        · exact h2.elim
      · exact h2.elim⟩

/-! ### assignment -/
@[simp] def qAsg (qe : DTE) (g : DTG) : DTS := fun DW DE p M => qe DW p M fun d M1 => g d DW p M1 DE.nx
theorem ref_asg {K : PySem.W.Frag} {te : TE} {qe : DTE} {t : TG} {g : DTG} {ix : List Nat} (h : RefE K W te qe) (hg : RefGi K W ix t g) : RefS K W (tAsg te t) (qAsg qe g) :=
  fun DW G H p M s DE E hw S q k => h DW G H p M s _ _ hw S q fun G1 H1 M1 d v e1 S1 r1 h1 => hg DW G1 H1 p M1 s d v _ _ (hw.mono e1) S1 r1 h1 fun G2 H2 p2 M2 s2 e2 S2 _ h2 => k.nx G2 H2 p2 M2 s2 (e1.trans e2) S2 h2
theorem qs_asg {tg e : Expr} {te : TE} {qe : DTE} {t : TG} {g : DTG} {ix : List Nat} (he : QE X W e te qe) (hg : QGi X W ix tg t g) (hs : swapsWithSole [tg] e pos.line X.env = pure false := by rfl) (hw : swappedStores [tg] e X.env = pure none := by rfl)
    (h1 : (assignEach [tg] X.env).map (·.2) = [assign tg X.env] := by rfl) : QS X W (.Assign [tg] e pos) (tAsg te t) (qAsg qe g) := ⟨ps_asg he.pe hg.pe hs hw h1, ref_asg he.rf hg.rf⟩
theorem qs_set {i : Nat} {x : Str} {e : Expr} {te : TE} {qe : DTE} {pos' : Pos} (h : PS X (.Assign [.Name x pos'] e pos) (tAsg te (gName i))) (he : RefE X.K W te qe) : QS X W (.Assign [.Name x pos'] e pos) (tAsg te (gName i)) (qAsg qe (gNameD i)) :=
  ⟨h, fun DW G H p M s DE E hw S q k => he DW G H p M s _ _ hw S q fun G1 H1 M1 d v e1 S1 r1 h1 => k.nx G1 H1 _ M1 _ e1 (S1.set i r1) h1⟩
@[simp] def qPar (i j : Nat) (qa : DTA) : DTS := fun DW DE p M => qa DW p M fun ds M1 => match ds with
  | [a, b] => DE.nx ((p.set i (some a)).set j (some b)) M1
  | _ => False
theorem qs_par {i j : Nat} {st : Stmt} {ta : TA} {qa : DTA} (h : PS X st (tPar i j ta)) (ha : RefA X.K W ta qa) : QS X W st (tPar i j ta) (qPar i j qa) :=
  ⟨h, fun DW G H p M s DE E hw S q k => ha DW G H p M s _ _ hw S q fun G1 H1 M1 ds vs e1 S1 r1 h1 => by
    split at h1
    · next a b =>
      obtain ⟨v, u, rfl, r2, r3⟩ := repL2 r1
      exact ⟨v, u, rfl, k.nx G1 H1 _ M1 _ e1 ((S1.set i r2).set j r3) h1⟩
    · exact h1.elim⟩
@[simp] def qPar3 (i j l : Nat) (qa : DTA) : DTS := fun DW DE p M => qa DW p M fun ds M1 => match ds with
  | [a, b, c] => DE.nx (((p.set i (some a)).set j (some b)).set l (some c)) M1
  | _ => False
theorem repL3 {K : PySem.W.Frag} {G : Hp} {x y z : D} {vs : List V} (r : RepL K G [x, y, z] vs) : ∃ v u w, vs = [v, u, w] ∧ Rep K G x v ∧ Rep K G y u ∧ Rep K G z w := by
  obtain ⟨v, r', e, h1, h2⟩ := r
  obtain ⟨u, w, e2, h3, h4⟩ := repL2 h2
  subst e2
  exact ⟨v, u, w, e, h1, h3, h4⟩
theorem qs_par3 {i j l : Nat} {st : Stmt} {ta : TA} {qa : DTA} (h : PS X st (tPar3 i j l ta)) (ha : RefA X.K W ta qa) : QS X W st (tPar3 i j l ta) (qPar3 i j l qa) :=
  ⟨h, fun DW G H p M s DE E hw S q k => ha DW G H p M s _ _ hw S q fun G1 H1 M1 ds vs e1 S1 r1 h1 => by
    split at h1
    · next a b c =>
      obtain ⟨v, u, w, rfl, r2, r3, r4⟩ := repL3 r1
      exact ⟨v, u, w, rfl, k.nx G1 H1 _ M1 _ e1 (((S1.set i r2).set j r3).set l r4) h1⟩
    · exact h1.elim⟩
/-- x op= e -/
def rAugX : TIp := fun x y H Q => ipI (fun i j => i + j) x y H Q ∨ rExt2 x y H Q
def dAug : DOp := fun x y M Q => match x, y with
  | .int i, .int j => Q (.int (i + j)) M
  | .ref a, y => match M a with
    | some (.lst ds) => match res M y with
      | .lst es => ds.length + es.length ≤ 100000 ∧ Q (.ref a) (put M a (.lst (ds ++ es)))
      | _ => False
    | _ => False
  | _, _ => False
theorem ip_any : PIp X .Add rAugX := by
  intro pins s σ H x y v u Q I r1 r2 h
  rcases h with h | h
  · exact ip_add pins s σ H x y v u Q I r1 r2 h
  · exact iop_ext pins s σ H x y v u Q I r1 r2 h
def qAug (i : Nat) (qe : DTE) (o : DOp) : DTS := fun DW DE p M => match p[i]? with
  | some (some x) => qe DW p M fun y M1 => o x y M1 fun z M2 => DE.nx (p.set i (some z)) M2
  | _ => False
theorem ref_aug {K : PySem.W.Frag} : RefR2 K rAugX dAug := fun G H p M s x y v u Q Q' S r1 r2 h k => by
  unfold dAug at h
  split at h
  · next i j => cases r1; cases r2; exact .inl ⟨i, j, rfl, rfl, k G H M (.int (i + j)) _ (Same.refl _) S rfl h⟩
  · next a =>
    cases r1
    split at h
    · next ds em =>
      obtain ⟨gn, vs, g1, g2, g3⟩ := S.mem _ _ em
      split at h
      · next es e1 =>
        obtain ⟨hl, h⟩ := h
        obtain ⟨b, us, rfl, c1, c2, c3⟩ := as_lst S r2 e1
        have z : vs.length + us.length ≤ sizeLine := by rw [g2.length, c2.length]; exact sz1000 hl
        refine .inr ⟨a, b, vs, us, rfl, rfl, g1, c1, z, ?_⟩
        exact k G _ _ (.ref a) _ (Same.refl _) (S.put (mo := .lst (ds ++ es)) gn ⟨_, upd_same, RepL.append g2 c2, by rw [List.length_append]; exact z⟩) rfl h
      · exact h.elim
    · exact h.elim
  · exact h.elim
theorem qs_augX {i : Nat} {x : Str} {e : Expr} {te : TE} {qe : DTE} {op : Operator} {ti : TIp} {o : DOp} {pos' : Pos} (h : PS X (.AugAssign (.Name x pos') op e pos) (tAug i te ti)) (he : RefE X.K W te qe) (ho : RefR2 X.K ti o) : QS X W (.AugAssign (.Name x pos') op e pos) (tAug i te ti) (qAug i qe o) :=
  ⟨h, fun DW G H p M s DE E hw S q k => by
    unfold qAug at q
    split at q
    · next d e =>
      obtain ⟨v, h1, h2⟩ := S.env i d e
      exact ⟨v, h1, he DW G H p M s _ _ hw S q fun G1 H1 M1 y u e1 S1 r1 q1 => ho G1 H1 p M1 s d y v u _ _ S1 (Rep.mono e1 _ _ h2) r1 q1 fun G2 H2 M2 z w e2 S2 r2 q2 => k.nx G2 H2 _ M2 _ (e1.trans e2) (S2.set i r2) q2⟩
    · exact q.elim⟩
end
end DL

/-! DLf: what is walked; for, while, comprehensions. -/
namespace DL
open PySem L2

/-- an iterator that gives these things, as long as Sty holds of the mutable objects -/
structure Feed (K : PySem.W.Frag) (G : Hp) (J : It) (ds : List D) (Sty : Mst → Prop) : Prop where
  go : ∀ G' H p M s i, Same G G' → Sim K G' H p M s → Sty M → i < ds.length → J.go i H
  yld : ∀ G' H p M s i x H', Same G G' → Sim K G' H p M s → Sty M → J.yld i H x H' → ∀ d, ds[i]? = some d → ∃ G2, Same G' G2 ∧ Sim K G2 H' p M s ∧ Rep K G2 d x
  stop : ∀ G' H p M s, Same G G' → Sim K G' H p M s → Sty M → J.stop ds.length H
abbrev DTI := DWt → Rho → Mst → (List D → (Mst → Prop) → Mst → Prop) → Prop
def RefI (K : PySem.W.Frag) (W : WX) (t : TI) (q : DTI) : Prop := ∀ DW G H p M s (R : List D → (Mst → Prop) → Mst → Prop) (R' : It → Hp → Prop), WLink K G DW W → Sim K G H p M s → q DW p M R →
  (∀ G' H' M' J ds Sty, Same G G' → Sim K G' H' p M' s → Feed K G' J ds Sty → ds.length ≤ sizeLine → R ds Sty M' → R' J H') → t s H R'
structure QI (X : Cx) (W : WX) (tg e : Expr) (t : TI) (q : DTI) : Prop where
  pe : PI X tg e t
  rf : RefI X.K W t q
def always : Mst → Prop := fun _ => True
@[simp] theorem always_eq {M : Mst} : always M = True := rfl

section
variable {K : PySem.W.Frag} {G : Hp}
theorem feed_list {a : Addr} {ds : List D} {vs : List V} {Sty : Mst → Prop} (r : RepL K G ds vs) (h : ∀ G' H p M s, Same G G' → Sim K G' H p M s → Sty M → SqL K H a vs) : Feed K G (Itl K a) ds Sty where
  go := fun G' H p M s i e S st hi => by
    have q := h G' H p M s e S st
    have hl := r.length
    exact ⟨vs, vs[i]'(by omega), q, by simp [hl, hi]⟩
  yld := fun G' H p M s i x H' e S st y d hd => by
    obtain ⟨rfl, y⟩ := y
    have q := y vs (h G' _ p M s e S st)
    obtain ⟨v, h1, h2⟩ := (RepL.mono e _ _ r).get hd
    rw [q] at h1; cases h1
    exact ⟨G', Same.refl _, S, h2⟩
  stop := fun G' H p M s e S st => ⟨vs, h G' H p M s e S st, by rw [r.length]; exact Nat.le_refl _⟩
theorem feed_tup {a : Addr} {ds : List D} {vs : List V} (r : RepL K G ds vs) (h : SqT K G a vs) : Feed K G (Itt K a) ds always where
  go := fun G' H p M s i e S st hi => by
    have hl := r.length
    exact ⟨vs, vs[i]'(by omega), same_t (e.trans S.same) h, by simp [hl, hi]⟩
  yld := fun G' H p M s i x H' e S st y d hd => by
    obtain ⟨rfl, y⟩ := y
    have q := y vs (same_t (e.trans S.same) h)
    obtain ⟨v, h1, h2⟩ := (RepL.mono e _ _ r).get hd
    rw [q] at h1; cases h1
    exact ⟨G', Same.refl _, S, h2⟩
  stop := fun G' H p M s e S st => ⟨vs, same_t (e.trans S.same) h, by rw [r.length]; exact Nat.le_refl _⟩
def signs (z : Str) : List D := z.cps.toList.map fun c => .str ⟨#[c]⟩
theorem feed_str {z : Str} (ho : PyData.strOk z = true) : Feed K G (Its z) (signs z) always where
  go := fun G' H p M s i e S st hi => by show i < z.cps.size; simpa [signs] using hi
  yld := fun G' H p M s i x H' e S st y d hd => by
    obtain ⟨rfl, c, h1, rfl⟩ := y
    refine ⟨G', Same.refl _, S, ?_⟩
    simp only [signs, List.getElem?_map, Array.getElem?_toList, h1, Option.map_some, Option.some.injEq] at hd
    subst hd
    refine ⟨rfl, sz1000 (by show 1 ≤ 100000; decide), ?_⟩
    have ho' : ∀ y ∈ z.cps.toList, decide (y < 0x110000) = true := by
      unfold PyData.strOk at ho
      rw [← Array.all_toList] at ho
      exact List.all_eq_true.mp ho
    have := ho' c (by rw [Array.mem_toList_iff]; exact Array.mem_of_getElem? h1)
    simpa [PyData.strOk] using this
  stop := fun G' H p M s e S st => by show z.cps.size ≤ _; simp [signs]
def rangeD (lo : Int) (n : Nat) : List D := (List.range n).map fun i => .int (lo + (i : Nat))
theorem feed_range {lo : Int} {n : Nat} : Feed K G (Itr lo n) (rangeD lo n) always where
  go := fun G' H p M s i e S st hi => by simpa [rangeD, Itr] using hi
  yld := fun G' H p M s i x H' e S st y d hd => by
    obtain ⟨rfl, rfl⟩ := y
    refine ⟨G', Same.refl _, S, ?_⟩
    simp only [rangeD, List.getElem?_map, Option.map_eq_some_iff] at hd
    obtain ⟨j, h1, rfl⟩ := hd
    obtain ⟨h2, h3⟩ := List.getElem?_eq_some_iff.mp h1
    simp at h3
    subst h3
    rfl
  stop := fun G' H p M s e S st => by show n ≤ _; simp [rangeD]
/-- lo + i * c -/
def rangeDC (lo c : Int) (n : Nat) : List D := (List.range n).map fun i => .int (lo + (i : Nat) * c)
theorem feed_rangeC {lo c : Int} {n : Nat} : Feed K G (Itc lo c n) (rangeDC lo c n) always where
  go := fun G' H p M s i e S st hi => by simpa [rangeDC, Itc] using hi
  yld := fun G' H p M s i x H' e S st y d hd => by
    obtain ⟨rfl, rfl⟩ := y
    refine ⟨G', Same.refl _, S, ?_⟩
    simp only [rangeDC, List.getElem?_map, Option.map_eq_some_iff] at hd
    obtain ⟨j, h1, rfl⟩ := hd
    obtain ⟨h2, h3⟩ := List.getElem?_eq_some_iff.mp h1
    simp at h3
    subst h3
    rfl
  stop := fun G' H p M s e S st => by show n ≤ _; simp [rangeDC]
end

/-! ### a list, a tuple, a text -/
def iAny (K : PySem.W.Frag) (tl : TE) : TI := fun σ H R => tl σ H fun x H1 => (∃ a, x = .ref a ∧ (∃ xs, SqL K H1 a xs) ∧ R (Itl K a) H1) ∨ (∃ a, x = .ref a ∧ (∃ xs, SqT K H1 a xs) ∧ R (Itt K a) H1) ∨ ∃ z, x = .str z ∧ R (Its z) H1
theorem pi_any {X : Cx} {tg l : Expr} {tl : TE} (hl : PE X l tl) : PI X tg l (iAny X.K tl) := by
  refine ⟨fun pins s σ H R I h => ?_⟩
  refine thn (hl.run pins s σ H _ I h) fun v s1 ⟨x, H1, I1, r1, q1⟩ => ?_
  rcases q1 with ⟨a, e, ⟨xs, hq⟩, q⟩ | ⟨a, e, ⟨xs, hq⟩, q⟩ | ⟨z, e, q⟩
  · subst e
    cases r1
    obtain ⟨its, rv, p, hz⟩ := I1.list hq
    refine wpAny_pyIter_list p.isList ?_
    refine ⟨s1.heap.objs.size, [s1.heap.objs.size], _, _, H1, rfl, I1.kept (t' := s1.toks) fun b o e => Heap.get?_push_of_some _ e, turn_list a _, ⟨_, Heap.get?_push_size _ rfl, rfl, rfl⟩, fun b hb => ?_, q⟩
    have e : b = s1.heap.objs.size := by simpa using hb
    subst e
    exact I1.fpOk (Nat.le_refl _) (I1.hok.fresh (Nat.le_refl _))
  · subst e
    cases r1
    obtain ⟨its, rv, p, hz⟩ := I1.tuple hq
    refine wpAny_pyIter_tuple (show s1.heap.IsTuple a its.toArray from p) ?_
    refine ⟨s1.heap.objs.size, [s1.heap.objs.size], _, _, H1, rfl, I1.kept (t' := s1.toks) fun b o e => Heap.get?_push_of_some _ e, turn_tuple a _, ⟨_, Heap.get?_push_size _ rfl, rfl, rfl⟩, fun b hb => ?_, q⟩
    have e : b = s1.heap.objs.size := by simpa using hb
    subst e
    exact I1.fpOk (Nat.le_refl _) (I1.hok.fresh (Nat.le_refl _))
  · subst e
    obtain ⟨t, rfl⟩ := r1
    cases ha : z.cps.all (· < 128)
    · exact wpAny_pyIter_wide ha (pi_one (tk := s1.toks) I1 _ (turn_str _ z t "str_iterator" (.inr rfl)) ⟨_, Heap.get?_push_size _ rfl, rfl, rfl⟩ q)
    · exact wpAny_pyIter_ascii ha (pi_one (tk := s1.toks) I1 _ (turn_str _ z t "str_ascii_iterator" (.inl rfl)) ⟨_, Heap.get?_push_size _ rfl, rfl, rfl⟩ q)
def holds (a : Addr) (o : MO) : Mst → Prop := fun M => M a = some o
@[simp] theorem holds_eq {a : Addr} {o : MO} {M : Mst} : holds a o M = (M a = some o) := rfl
def qiAny (qe : DTE) : DTI := fun DW p M R => qe DW p M fun d M1 => match d with
  | .lst ds => R ds always M1
  | .tup ds => R ds always M1
  | .ktp ds => R ds always M1
  | .str z => R (signs z) always M1
  | .ref a => match M1 a with
    | some (.lst ds) => R ds (holds a (.lst ds)) M1
    | _ => False
  | _ => False
section
variable {X : Cx} {W : WX} {tg e : Expr} {te : TE} {qe : DTE}
theorem qi_any (he : QE X W e te qe) : QI X W tg e (iAny X.K te) (qiAny qe) :=
  ⟨pi_any he.pe, fun DW G H p M s R R' hw S h k => he.rf DW G H p M s _ _ hw S h fun G1 H1 M1 d v e1 S1 r1 h1 => by
    split at h1
    · next ds =>
      obtain ⟨a, vs, rfl, g1, g2, g3⟩ := r1
      refine .inl ⟨a, rfl, ⟨vs, .inl (.inl (S1.same _ _ g1))⟩, k G1 H1 M1 _ ds always e1 S1 (feed_list g2 fun G' H p M s e S _ => .inl (.inl (S.same _ _ (e _ _ g1)))) (by rw [← g2.length]; exact g3) h1⟩
    · next ds =>
      obtain ⟨a, vs, rfl, g1, g2, g3⟩ := r1
      exact .inr (.inl ⟨a, rfl, ⟨vs, .inl (.inl (S1.same _ _ g1))⟩, k G1 H1 M1 _ ds always e1 S1 (feed_tup g2 (.inl (.inl g1))) (by rw [← g2.length]; exact g3) h1⟩)
    · next ds =>
      obtain ⟨a, vs, rfl, g1, g2, g3⟩ := r1
      exact .inr (.inl ⟨a, rfl, ⟨vs, same_t S1.same g1⟩, k G1 H1 M1 _ ds always e1 S1 (feed_tup g2 g1) (by rw [← g2.length]; exact g3) h1⟩)
    · next z =>
      obtain ⟨rfl, g1, g2⟩ := r1
      exact .inr (.inr ⟨z, rfl, k G1 H1 M1 _ _ always e1 S1 (feed_str g2) (by simpa [signs, Str.length] using g1) h1⟩)
    · next a =>
      cases r1
      split at h1
      · next ds em =>
        obtain ⟨gn, vs, g1, g2, g3⟩ := S1.mem _ _ em
        have lk : ∀ G' H p M s, Same G1 G' → Sim X.K G' H p M s → holds a (.lst ds) M → ∃ us, H a = some (.lst us) ∧ RepL X.K G' ds us := fun G' H p M s e S st => by
          obtain ⟨_, us, c1, c2, _⟩ := S.mem _ _ st
          exact ⟨us, c1, c2⟩
        refine .inl ⟨a, rfl, ⟨vs, .inl (.inl g1)⟩, k G1 H1 M1 _ ds _ e1 S1 ⟨fun G' H p M s i e S st hi => ?_, fun G' H p M s i x H' e S st y d hd => ?_, fun G' H p M s e S st => ?_⟩ (by rw [← g2.length]; exact g3) h1⟩
        · obtain ⟨us, c1, c2⟩ := lk G' H p M s e S st
          have hl := c2.length
          exact ⟨us, us[i]'(by omega), .inl (.inl c1), by simp [hl, hi]⟩
        · obtain ⟨us, c1, c2⟩ := lk G' H p M s e S st
          obtain ⟨rfl, y⟩ := y
          have q := y us (.inl (.inl c1))
          obtain ⟨v, h1, h2⟩ := c2.get hd
          rw [q] at h1; cases h1
          exact ⟨G', Same.refl _, S, h2⟩
        · obtain ⟨us, c1, c2⟩ := lk G' H p M s e S st
          exact ⟨us, .inl (.inl c1), by rw [c2.length]; exact Nat.le_refl _⟩
      · exact h1.elim
    · exact h1.elim⟩
/-- range(n), range(a, b) -/
def qiRng1 (qa : DTA) : DTI := fun DW p M R => qa DW p M fun ds M1 => match ds with
  | [.int j] => -(2 ^ 62) ≤ j ∧ j ≤ 100000 ∧ R (rangeD 0 j.toNat) always M1
  | _ => False
def qiRng2 (qa : DTA) : DTI := fun DW p M R => qa DW p M fun ds M1 => match ds with
  | [.int i, .int j] => (-(2 ^ 61) ≤ i ∧ i < 2 ^ 61 ∧ -(2 ^ 61) ≤ j ∧ j < 2 ^ 61) ∧ j - i ≤ 100000 ∧ R (rangeD i (j - i).toNat) always M1
  | _ => False
variable {a b : Expr} {ta : TA} {qa : DTA} {p pos : Pos}
theorem qi_range1 (hg : Gl X "range") (hm : X.mg "range" = none) (ha : QA X W [a] ta qa) (hs : starEach [a] X.env = [(false, eval a X.env)] := by rfl) : QI X W tg (.Call (.Name "range" p) [a] [] pos) (iRng1 ta) (qiRng1 qa) :=
  ⟨pi_range1 hg hm ha.pe hs, fun DW G H p M s R R' hw S h k => ha.rf DW G H p M s _ _ hw S h fun G1 H1 M1 ds vs e1 S1 r1 h1 => by
    split at h1
    · next j =>
      obtain ⟨v, rfl, r2⟩ := repL1 r1
      cases r2
      obtain ⟨b1, b2, h1⟩ := h1
      exact ⟨j, rfl, b1, by omega, k G1 H1 M1 _ _ _ e1 S1 feed_range (by simp only [rangeD, List.length_map, List.length_range]; exact sz1000 (by omega)) h1⟩
    · exact h1.elim⟩
theorem qi_range2 (hg : Gl X "range") (hm : X.mg "range" = none) (ha : QA X W [a, b] ta qa) (hs : starEach [a, b] X.env = [(false, eval a X.env), (false, eval b X.env)] := by rfl) (hs2 : starEach [b] X.env = [(false, eval b X.env)] := by rfl) : QI X W tg (.Call (.Name "range" p) [a, b] [] pos) (iRng2 ta) (qiRng2 qa) :=
  ⟨pi_range2 hg hm ha.pe hs hs2, fun DW G H p M s R R' hw S h k => ha.rf DW G H p M s _ _ hw S h fun G1 H1 M1 ds vs e1 S1 r1 h1 => by
    split at h1
    · next i j =>
      obtain ⟨v, u, rfl, r2, r3⟩ := repL2 r1
      cases r2
      cases r3
      obtain ⟨⟨b1, b2, b3, b4⟩, b5, h1⟩ := h1
      exact ⟨i, j, rfl, ⟨by omega, by omega, by omega, by omega⟩, k G1 H1 M1 _ _ _ e1 S1 feed_range (by simp only [rangeD, List.length_map, List.length_range]; exact sz1000 (by omega)) h1⟩
    · exact h1.elim⟩
end

/-! ### for -/
def loopL (Sty : Mst → Prop) (g : DTG) (tb : DTS) (DW : DWt) (DE : DEnds) : List D → Rho → Mst → Prop
  | [], p, M => Sty M ∧ DE.nx p M
  | d :: ds, p, M => Sty M ∧ g d DW p M fun p' M' => tb DW { DE with nx := loopL Sty g tb DW DE ds, ct := loopL Sty g tb DW DE ds, bk := DE.nx } p' M'
def qFor (qi : DTI) (g : DTG) (tb : DTS) : DTS := fun DW DE p M => qi DW p M fun ds Sty M1 => loopL Sty g tb DW DE ds p M1
section
variable {X : Cx} {W : WX} {tg iter : Expr} {body : List Stmt} {wi : TI} {qi : DTI} {t : TG} {g : DTG} {ix : List Nat} {tb : TS} {qb : DTS} {pos : Pos}
theorem ref_for {K : PySem.W.Frag} (hi : RefI K W wi qi) (hg : RefGi K W ix t g) (hb : RefS K W tb qb) : RefS K W (tFor wi t tb) (qFor qi g qb) :=
  fun DW G H p M s DE E hw S h k => hi DW G H p M s _ _ hw S h fun G1 H1 M1 J ds Sty e1 S1 F hlen h1 => by
    refine ⟨fun i m σ H => m = ds.length - i ∧ i ≤ ds.length ∧ ∃ G' p' M', Same G1 G' ∧ Sim K G' H p' M' σ ∧ loopL Sty g qb DW DE (ds.drop i) p' M', ⟨ds.length, by simp, Nat.zero_le _, G1, p, M1, Same.refl _, S1, by simpa using h1⟩, ?_⟩
    rintro i m σ H2 ⟨rfl, hi2, G', p', M', e2, S2, h2⟩
    by_cases hlt : i < ds.length
    · have ed : ds.drop i = ds[i] :: ds.drop (i + 1) := List.drop_eq_getElem_cons hlt
      rw [ed] at h2
      obtain ⟨st, h2⟩ := h2
      refine .inr ⟨F.go G' H2 p' M' σ i e2 S2 st hlt, fun σ' H' => ∃ G3 p3 M3, Same G1 G3 ∧ Sim K G3 H' p3 M3 σ' ∧ loopL Sty g qb DW DE (ds.drop (i + 1)) p3 M3,
        fun σ' H' n => ⟨ds.length - (i + 1), by omega, rfl, hlt, n⟩, fun x H' y => ?_⟩
      obtain ⟨G3, e3, S3, r3⟩ := F.yld G' H2 p' M' σ i x H' e2 S2 st y ds[i] (List.getElem?_eq_getElem hlt)
      have e13 := e2.trans e3
      refine hg DW G3 H' p' M' σ _ x _ _ (hw.mono (e1.trans e13)) S3 r3 h2 fun G4 H4 p4 M4 σ4 e4 S4 _ h4 => ?_
      have e14 := e13.trans e4
      refine hb DW G4 H4 p4 M4 σ4 _ _ (hw.mono (e1.trans e14)) S4 h4 ⟨fun G5 H5 p5 M5 σ5 e5 S5 h5 => ⟨G5, p5, M5, e14.trans e5, S5, h5⟩, fun G5 H5 p5 M5 σ5 d v e5 S5 r5 h5 => k.rt G5 H5 p5 M5 σ5 d v ((e1.trans e14).trans e5) S5 r5 h5,
        fun G5 H5 p5 M5 σ5 e5 S5 h5 => k.nx G5 H5 p5 M5 σ5 ((e1.trans e14).trans e5) S5 h5, fun G5 H5 p5 M5 σ5 e5 S5 h5 => ⟨G5, p5, M5, e14.trans e5, S5, h5⟩⟩
    · have e : i = ds.length := by omega
      subst e
      rw [List.drop_length] at h2
      exact .inl ⟨F.stop G' H2 p' M' σ e2 S2 h2.1, k.nx G' H2 p' M' σ (e1.trans e2) S2 h2.2⟩
theorem qs_for (hp : PassesOwn (model X.prog X.w) X.A X.env X.xe) (hc : X.calm = true) (hi : QI X W tg iter wi qi) (hg : QGi X W ix tg t g) (hb : QSs X W body tb qb) (hs : ∀ x, foldedSetIterable iter X.env x = pure x := by intro _; rfl) :
    QS X W (.For tg iter body [] pos) (tFor wi t tb) (qFor qi g qb) := ⟨ps_for hp hc hi.pe hg.pe hb.pe hs, ref_for hi.rf hg.rf hb.rf⟩

/-! ### while -/
def whileL (qc : DTT) (tb : DTS) (DW : DWt) (DE : DEnds) : Nat → Rho → Mst → Prop
  | 0, _, _ => False
  | n + 1, p, M => qc DW p M fun b M1 => if b = true then tb DW { DE with nx := whileL qc tb DW DE n, ct := whileL qc tb DW DE n, bk := DE.nx } p M1 else DE.nx p M1
def qWhile (qc : DTT) (tb : DTS) : DTS := fun DW DE p M => ∃ n, whileL qc tb DW DE n p M
theorem ref_while {K : PySem.W.Frag} {c : TT} {qc : DTT} (hc : RefT K W c qc) (hb : RefS K W tb qb) : RefS K W (tWhile c tb) (qWhile qc qb) :=
  fun DW G H p M s DE E hw S ⟨n, h⟩ k => by
    refine ⟨fun m σ H => ∃ G' p' M', Same G G' ∧ Sim K G' H p' M' σ ∧ whileL qc qb DW DE m p' M', ⟨n, G, p, M, Same.refl _, S, h⟩, ?_⟩
    rintro m σ H2 ⟨G', p', M', e2, S2, h2⟩
    cases m with
    | zero => exact h2.elim
    | succ m =>
      refine hc DW G' H2 p' M' σ _ _ (hw.mono e2) S2 h2 fun G3 H3 M3 b e3 S3 h3 => ?_
      cases b with
      | true =>
        rw [if_pos rfl] at h3 ⊢
        refine ⟨fun σ' H' => ∃ G4 p4 M4, Same G G4 ∧ Sim K G4 H' p4 M4 σ' ∧ whileL qc qb DW DE m p4 M4, fun σ' H' q => ⟨m, Nat.lt_succ_self _, q⟩, ?_⟩
        have e13 := e2.trans e3
        exact hb DW G3 H3 p' M3 σ _ _ (hw.mono e13) S3 h3 ⟨fun G5 H5 p5 M5 σ5 e5 S5 h5 => ⟨G5, p5, M5, e13.trans e5, S5, h5⟩, fun G5 H5 p5 M5 σ5 d v e5 S5 r5 h5 => k.rt G5 H5 p5 M5 σ5 d v (e13.trans e5) S5 r5 h5,
          fun G5 H5 p5 M5 σ5 e5 S5 h5 => k.nx G5 H5 p5 M5 σ5 (e13.trans e5) S5 h5, fun G5 H5 p5 M5 σ5 e5 S5 h5 => ⟨G5, p5, M5, e13.trans e5, S5, h5⟩⟩
      | false =>
        rw [if_neg Bool.false_ne_true] at h3 ⊢
        exact k.nx G3 H3 p' M3 σ (e2.trans e3) S3 h3
theorem qs_while {c : Expr} {tc : TT} {qc : DTT} (hp : PassesOwn (model X.prog X.w) X.A X.env X.xe) (hc : QT X W c tc qc) (hb : QSs X W body tb qb) : QS X W (.While c body [] pos) (tWhile tc tb) (qWhile qc qb) := ⟨ps_while hp hc.pe hb.pe, ref_while hc.rf hb.rf⟩
end

/-! ### comprehensions -/
abbrev W0 : WX := fun _ _ _ _ => False
abbrev DW0 : DWt := fun _ _ _ => False
structure QTs (X : Cx) (W : WX) (ifs : List Expr) (t : TT) (q : DTT) : Prop where
  pe : PTs X ifs t
  rf : RefT X.K W t q
@[simp] def qYes : DTT := fun _ _ M Q => Q true M
theorem qts_nil {X : Cx} {W : WX} : QTs X W [] tYes qYes := ⟨pts_nil, fun DW G H p M s Q Q' hw S h k => k G H M true (Same.refl _) S h⟩
theorem qts_one {X : Cx} {W : WX} {c : Expr} {t : TT} {q : DTT} (h : QT X W c t q) : QTs X W [c] t q := ⟨pts_one h.pe, h.rf⟩
/-- what is made stands at a -/
def compL (m : Bool) (Sty : Mst → Prop) (g : DTG) (tt : DTT) (te : DTE) (ix : List Nat) (a : Addr) (p : Rho) (Q : DK) : List D → Mst → Prop
  | [], M => Sty M ∧ match M a with
    | some (.lst acc) => if m = true then Q (.ref a) M else Q (.lst acc) (del M a)
    | _ => False
  | d :: ds, M => Sty M ∧ g d DW0 (wipeD p ix) M fun p2 M2 => tt DW0 p2 M2 fun b M3 => if b = true then te DW0 p2 M3 fun y M4 => match M4 a with
      | some (.lst acc) => acc.length < 100000 ∧ compL m Sty g tt te ix a p Q ds (put M4 a (.lst (acc ++ [y])))
      | _ => False
    else compL m Sty g tt te ix a p Q ds M3
def qLc (m : Bool) (qi : DTI) (g : DTG) (tt : DTT) (te : DTE) (ix : List Nat) : DTE := fun DW p M Q => qi DW p M fun ds Sty M1 => ∀ a, M1 a = none → compL m Sty g tt te ix a p Q ds (put M1 a (.lst []))
theorem ref_lc {K : PySem.W.Frag} {W : WX} {wi : TI} {qi : DTI} {t : TG} {g : DTG} {ix : List Nat} {tt : TT} {qt : DTT} {te : TE} {qe : DTE} {m : Bool} (hi : RefI K W wi qi) (hg : RefGi K W0 ix t g) (ht : RefT K W0 tt qt) (he : RefE K W0 te qe) :
    RefE K W (tLc wi t tt te ix) (qLc m qi g qt qe ix) :=
  fun DW G H p M s Q Q' hw S h k => hi DW G H p M s _ _ hw S h fun G1 H1 M1 J ds Sty e1 S1 F hlen h1 a ha => by
    have w0 : ∀ G, WLink K G DW0 W0 := fun G G' H' p' M' s' x cls dx e S r z => z.elim
    have h1' := h1 a (S1.mem.fresh ha)
    have S1' : Sim K G1 (upd H1 a (.lst [])) p (put M1 a (.lst [])) s := S1.put (mo := .lst []) (S1.same.free ha) ⟨[], upd_same, rfl, Nat.zero_le _⟩
    refine ⟨fun i n H => n = ds.length - i ∧ i ≤ ds.length ∧ ∃ G' M', Same G1 G' ∧ Sim K G' H p M' s ∧ compL m Sty g qt qe ix a p Q (ds.drop i) M', ⟨ds.length, by simp, Nat.zero_le _, G1, _, Same.refl _, S1', by simpa using h1'⟩, ?_⟩
    rintro i n H2 ⟨rfl, hi2, G', M', e2, S2, h2⟩
    by_cases hlt : i < ds.length
    · have ed : ds.drop i = ds[i] :: ds.drop (i + 1) := List.drop_eq_getElem_cons hlt
      rw [ed] at h2
      obtain ⟨st, h2⟩ := h2
      refine .inr ⟨F.go G' H2 p M' s i e2 S2 st hlt, fun H' => ∃ G3 M3, Same G1 G3 ∧ Sim K G3 H' p M3 s ∧ compL m Sty g qt qe ix a p Q (ds.drop (i + 1)) M3, fun H' q => ⟨ds.length - (i + 1), by omega, rfl, hlt, q⟩, fun x H' y => ?_⟩
      obtain ⟨G3, e3, S3, r3⟩ := F.yld G' H2 p M' s i x H' e2 S2 st y ds[i] (List.getElem?_eq_getElem hlt)
      have e13 := e2.trans e3
      refine hg DW0 G3 H' (wipeD p ix) M' (L2.wipe s ix) _ x _ _ (w0 _) (S3.wipe ix) r3 h2 fun G4 H4 p4 M4 s4 e4 S4 o4 h4 => ?_
      have back : ∀ {G H M}, Sim K G H p4 M s4 → Sim K G H p M s → True := fun _ _ => trivial
      have ww : L2.wipe s4 ix = L2.wipe s ix := by
        rw [o4.wipe]
        apply List.ext_getElem?
        intro j
        by_cases hj : j ∈ ix
        · by_cases hl : j < s.length
          · rw [wipe_in hj (by rw [wipe_length]; exact hl), wipe_in hj hl]
          · rw [List.getElem?_eq_none (by rw [wipe_length, wipe_length]; omega), List.getElem?_eq_none (by rw [wipe_length]; omega)]
        · rw [wipe_get hj]
      have e14 := e13.trans e4
      -- the slots of the frame itself are as they were
      have home : ∀ {G H M}, Same G1 G → Sim K G H p4 M s4 → Sim K G H p M s := fun {G H M} eg Sx =>
        ⟨Sx.same, fun j d hd => by
          obtain ⟨v, q1, q2⟩ := S1.env j d hd
          exact ⟨v, q1, Rep.mono eg _ _ q2⟩, S1.len, Sx.mem⟩
      refine ⟨ww, ht DW0 G4 H4 p4 M4 s4 _ _ (w0 _) S4 h4 fun G5 H5 M5 b e5 S5 h5 => ?_⟩
      have e15 := e14.trans e5
      cases b with
      | false =>
        rw [if_neg Bool.false_ne_true] at h5 ⊢
        exact ⟨G5, M5, e15, home e15 S5, h5⟩
      | true =>
        rw [if_pos rfl] at h5 ⊢
        refine he DW0 G5 H5 p4 M5 s4 _ _ (w0 _) S5 h5 fun G6 H6 M6 d v e6 S6 r6 h6 => ?_
        have e16 := e15.trans e6
        split at h6
        · next acc em =>
          obtain ⟨hl, h6⟩ := h6
          obtain ⟨gn, vs, c1, c2, c3⟩ := S6.mem _ _ em
          refine ⟨vs, c1, by rw [c2.length, sizeLine_eq]; omega, G6, _, e16, (home e16 S6).put (mo := .lst (acc ++ [d])) gn ⟨_, upd_same, RepL.append c2 (RepL.cons r6 rfl), ?_⟩, h6⟩
          rw [List.length_append, c2.length, sizeLine_eq]
          simp
          omega
        · exact h6.elim
    · have e : i = ds.length := by omega
      subst e
      rw [List.drop_length] at h2
      obtain ⟨st, h2⟩ := h2
      refine .inl ⟨F.stop G' H2 p M' s e2 S2 st, ?_⟩
      split at h2
      · next acc em =>
        cases m with
        | true =>
          rw [if_pos rfl] at h2
          exact k G' H2 M' (.ref a) _ (e1.trans e2) S2 rfl h2
        | false =>
          rw [if_neg Bool.false_ne_true] at h2
          obtain ⟨G3, e3, S3, r3⟩ := S2.freeze em
          exact k G3 H2 _ _ _ ((e1.trans e2).trans e3) S3 r3 h2
      · exact h2.elim
section
variable {X : Cx} {W : WX} {elt tg iter : Expr} {ifs : List Expr} {scope : Scope} {own : List (Str × Nat)} {pos : Pos} {wi : TI} {qi : DTI} {g : TG} {qg : DTG} {tt : TT} {qt : DTT} {te : TE} {qe : DTE}
theorem q_lc (m : Bool) (hc : X.calm = true) (hN : X.N.Nodup) (hi : QI X W tg iter wi qi) (ok : BlkOk X.N X.env.scope scope own)
    (hg : ∀ (s : Shared) (H : Hp) (C : Addr) (cl : List (Str × Addr)) (fp : List Addr), QGi (X.blk s H scope (compEnvC scope cl C X.env) fp) W0 (own.map (·.2)) tg g qg)
    (ht : ∀ (s : Shared) (H : Hp) (C : Addr) (cl : List (Str × Addr)) (fp : List Addr), QTs (X.blk s H scope (compEnvC scope cl C X.env) fp) W0 ifs tt qt)
    (he : ∀ (s : Shared) (H : Hp) (C : Addr) (cl : List (Str × Addr)) (fp : List Addr), QE (X.blk s H scope (compEnvC scope cl C X.env) fp) W0 elt te qe) (hs : ∀ x, foldedSetIterable iter X.env x = pure x := by intro _; rfl) :
    QE X W (.ListComp elt [⟨tg, iter, ifs, 0⟩] scope pos) (tLc wi g tt te (own.map (·.2))) (qLc m qi qg qt qe (own.map (·.2))) :=
  ⟨pe_lc hc hN hi.pe ok (fun s H C cl fp => (hg s H C cl fp).pe) (fun s H C cl fp => (ht s H C cl fp).pe) (fun s H C cl fp => (he s H C cl fp).pe) hs,
    ref_lc hi.rf (hg X.s_0 X.H_0 0 [] []).rf (ht X.s_0 X.H_0 0 [] []).rf (he X.s_0 X.H_0 0 [] []).rf⟩
theorem qs_setLc (m : Bool) {i : Nat} {y : Str} {py spos : Pos} (hc : X.calm = true) (hN : X.N.Nodup) (hy : X.N[i]? = some y) (hyl : X.env.scope.names.lookup y = some .local)
    (hsw : swapsWith (.ListComp elt [⟨tg, iter, ifs, 0⟩] scope pos) (some (.Name y py)) spos.line X.env = pure true) (hi : QI X W tg iter wi qi) (ok : BlkOk X.N X.env.scope scope own)
    (hg : ∀ (s : Shared) (H : Hp) (C : Addr) (cl : List (Str × Addr)) (fp : List Addr), QGi (X.blk s H scope (compEnvC scope cl C X.env) fp) W0 (own.map (·.2)) tg g qg)
    (ht : ∀ (s : Shared) (H : Hp) (C : Addr) (cl : List (Str × Addr)) (fp : List Addr), QTs (X.blk s H scope (compEnvC scope cl C X.env) fp) W0 ifs tt qt)
    (he : ∀ (s : Shared) (H : Hp) (C : Addr) (cl : List (Str × Addr)) (fp : List Addr), QE (X.blk s H scope (compEnvC scope cl C X.env) fp) W0 elt te qe) (hs : ∀ x, foldedSetIterable iter X.env x = pure x := by intro _; rfl) :
    QS X W (.Assign [.Name y py] (.ListComp elt [⟨tg, iter, ifs, 0⟩] scope pos) spos) (tAsg (tLc wi g tt te (own.map (·.2))) (gName i)) (qAsg (qLc m qi qg qt qe (own.map (·.2))) (gNameD i)) :=
  qs_set (ps_setLc hc hN hy hyl hsw hi.pe ok (fun s H C cl fp => (hg s H C cl fp).pe) (fun s H C cl fp => (ht s H C cl fp).pe) (fun s H C cl fp => (he s H C cl fp).pe) hs)
    (ref_lc hi.rf (hg X.s_0 X.H_0 0 [] []).rf (ht X.s_0 X.H_0 0 [] []).rf (he X.s_0 X.H_0 0 [] []).rf)
end
end DL

/-! DLg: defs and their calls; methods of lists and dicts. -/
namespace DL
open PySem L2

/-! ### a def's promise by data -/
def toSp (K : PySem.W.Frag) (P : DSp) : Sp := fun vs H Q E => ∃ (G : Hp) (ds : List D) (M : Mst) (Qd : DK) (Ed : DX → Mst → Prop), Same G H ∧ RepL K G ds vs ∧ MemOk K G H M ∧ P ds M Qd Ed ∧
  (∀ G' H' v d M', Same G G' → Same G' H' → Rep K G' d v → MemOk K G' H' M' → Qd d M' → Q v H') ∧
  (∀ G' H' x cls dx M', Same G G' → Same G' H' → RepX K G' x cls dx → MemOk K G' H' M' → Ed x M' → E cls dx H')
def startD (N : List Str) (ds : List D) : Rho := ds.map some ++ List.replicate (N.length - ds.length) none
section
variable {P : Program} {w : World} {K : PySem.W.Frag} {mg : Str → Option Value} {base : Heap}
theorem start_sim {G H : Hp} {ds : List D} {vs : List V} {M : Mst} {N : List Str} (e : Same G H) (r : RepL K G ds vs) (hm : MemOk K G H M) : Sim K G H (startD N ds) M (L2.start N vs) := by
  have hl := r.length
  refine ⟨e, fun i d h => ?_, by simp [startD, L2.start, hl], hm⟩
  unfold startD at h
  unfold L2.start
  by_cases hi : i < ds.length
  · rw [List.getElem?_append_left (by simpa using hi)] at h
    rw [List.getElem?_append_left (by simp [hl, hi])]
    simp only [List.getElem?_map, Option.map_eq_some_iff, Option.some.injEq] at h
    obtain ⟨d', h1, rfl⟩ := h
    obtain ⟨v, h2, h3⟩ := r.get h1
    exact ⟨v, by simp [h2], h3⟩
  · rw [List.getElem?_append_right (by simpa using hi)] at h
    rw [List.getElem?_replicate] at h
    split at h <;> cases h
/-- THE RULE for a def: its body's reading by data -/
theorem fn_ok {x qual : Str} {st : Stmt} {f : Addr} {fd : FuncData} {N ps : List Str} {k : Nat} {p : DSp} (F : Fun K x qual st f fd) (S : FnScope N ps (defScope st)) (len : ∀ ds M Q E, p ds M Q E → ds.length = ps.length)
    (hbody : ∀ (cdv : Value) (A : Around) (outer : List Env) (s : Shared) (H : Hp) (E : XK), Room k (A.deeper (PyProof.Rows.envOfC qual (defScope st) s.heap.objs.size f cdv)) →
      Takes (cxOf (L2.CX P w) P w K mg base N qual (defScope st) f cdv A outer s H E) (fun cls d _ H => E cls d H) →
      PassesOwn (model P w) (cxOf (L2.CX P w) P w K mg base N qual (defScope st) f cdv A outer s H E).A (cxOf (L2.CX P w) P w K mg base N qual (defScope st) f cdv A outer s H E).env (cxOf (L2.CX P w) P w K mg base N qual (defScope st) f cdv A outer s H E).xe →
      ∃ t q, QSs (cxOf (L2.CX P w) P w K mg base N qual (defScope st) f cdv A outer s H E) (fun cls d _ H => E cls d H) (defBody st) t q ∧
        ∀ ds M Q Ed, p ds M Q Ed → q (fun x _ M => Ed x M) { nx := fun _ M => Q .non M, rt := Q } (startD N ds) M) : FnOk P w K mg base (L2.CX P w) (k + 1) f fd ps (toSp K p) := by
  refine F.okX S (fun vs H Q E h => ?_) (fun cdv A outer s H vs Q E hr h => ?_)
  · obtain ⟨G, ds, M, Qd, Ed, _, r, _, hp, _⟩ := h
    rw [r.length]; exact len _ _ _ _ hp
  · obtain ⟨G, ds, M, Qd, Ed, e, r, hm, hp, kq, ke⟩ := h
    obtain ⟨t, q, hq, hs⟩ := hbody cdv A outer s H E hr (takes_of rfl rfl rfl rfl) (passes_of rfl)
    refine ⟨t, hq.pe, hq.rf (fun x _ M => Ed x M) G H (startD N ds) M (L2.start N vs) _ _ (fun G' H' p' M' s' x cls dx e1 S1 r1 h1 => ke G' H' x cls dx M' e1 S1.same r1 S1.mem h1) (start_sim e r hm) (hs ds M Qd Ed hp)
      ⟨fun G' H' p' M' s' e1 S1 h1 => kq G' H' .non .non M' e1 S1.same rfl S1.mem h1, fun G' H' p' M' s' d v e1 S1 r1 h1 => kq G' H' v d M' e1 S1.same r1 S1.mem h1, fun _ _ _ _ _ _ _ h => h.elim, fun _ _ _ _ _ _ _ h => h.elim⟩⟩
end

/-! ### calls -/
@[simp] def qCall (P : DSp) (dds : List D) (qa : DTA) : DTE := fun DW p M Q => qa DW p M fun ds M1 => P (ds ++ dds) M1 Q fun x M2 => DW x p M2
section
variable {X : Cx} {W : WX} {k : Nat} {f : Addr} {fd : FuncData} {ps : List Str} {P : DSp} {dds : List D} {dvs : List V} {ds : List Value} {x : Str} {p pos : Pos} {e : Expr} {es : List Expr} {t : TA} {q : DTA}
/-- what a callee's promise gives at a call -/
theorem toSp_at {K : PySem.W.Frag} {DW : DWt} {G H : Hp} {p : Rho} {M : Mst} {s : L2.St} {ds : List D} {vs : List V} {Q : DK} {Q' : VK} (hw : WLink K G DW W) (S : Sim K G H p M s) (r : RepL K G ds vs) (h : P ds M Q fun x M2 => DW x p M2)
    (k : ∀ G' H' M' d v, Same G G' → Sim K G' H' p M' s → Rep K G' d v → Q d M' → Q' v H') : toSp K P vs H Q' (WE W s) := by
  have up : ∀ {G' H' M'}, Same G G' → Same G' H' → MemOk K G' H' M' → Sim K G' H' p M' s := fun {G' H' M'} e1 e2 hm => ⟨e2, fun i d hd => by
    obtain ⟨v, h1, h2⟩ := S.env i d hd
    exact ⟨v, h1, Rep.mono e1 _ _ h2⟩, S.len, hm⟩
  exact ⟨G, ds, M, Q, _, S.same, r, S.mem, h, fun G' H' v d M' e1 e2 r1 hm q => k G' H' M' d v e1 (up e1 e2 hm) r1 q, fun G' H' x cls dx M' e1 e2 r1 hm q => hw G' H' p M' s x cls dx e1 (up e1 e2 hm) r1 q⟩
theorem ref_call {K : PySem.W.Frag} (ha : RefA K W t q) (hd : ∀ G, RepL K G dds dvs) : RefE K W (tCallSD (toSp K P) dvs (fun s => WE W s) t) (qCall P dds q) :=
  fun DW G H p M s Q Q' hw S h k => ha DW G H p M s _ _ hw S h fun G1 H1 M1 as vs e1 S1 r1 h1 => toSp_at (hw.mono e1) S1 (RepL.append r1 (hd _)) h1 fun G' H' M' d v e2 => k G' H' M' d v (e1.trans e2)
/-- f(e, ..), a def of the module -/
theorem q_call (F : FnOk X.prog X.w X.K X.mg X.base (L2.CX X.prog X.w) k f fd ps (toSp X.K P)) (hr : Room k X.A) (tk : Takes X W) (hg : Gl X x) (hm : X.mg x = some (.ref f)) (hk : PySem.W.keepIn X.K (.ref f) = true) (hb : Binds X.K fd ps ds) (hd : Vals dvs ds) (hdd : ∀ G, RepL X.K G dds dvs)
    (ha : QA X W (e :: es) t q) (hdb : (x == ("__debug__" : Str)) = false := by decide) (he : starEach (e :: es) X.env = (false, eval e X.env) :: starEach es X.env := by rfl) (hpl : (backTo pos (starEach es X.env)).any (·.1) = false := by rfl) :
    QE X W (.Call (.Name x p) (e :: es) [] pos) (tCallSD (toSp X.K P) dvs (fun s => WE W s) t) (qCall P dds q) :=
  ⟨pe_callSD F hr hg hm hk hb hd (fun σ => passAt tk σ) ha.pe hdb he hpl, ref_call ha.rf hdd⟩
end

/-! ### methods of built-in types -/
def tyOk (T : String) : D → Bool
  | .lst _ => T == "list"
  | .str _ => T == "str"
  | _ => false
theorem tyV_of {K : PySem.W.Frag} {G H : Hp} {p : Rho} {M : Mst} {s : L2.St} {T : String} {x : D} {v : V} (S : Sim K G H p M s) (r : Rep K G x v) (h : tyOk T (res M x) = true) : tyV K T v H := by
  cases e : res M x with
  | lst ds =>
    rw [e] at h
    obtain ⟨a, vs, rfl, g1, g2, g3⟩ := as_lst S r e
    exact .inl ⟨by simpa [tyOk] using h, vs, .inl (.inl g1)⟩
  | str z =>
    rw [e] at h
    obtain ⟨rfl, _⟩ := as_str r e
    show T = "str"
    simpa [tyOk] using h
  | _ => rw [e] at h; cases h
abbrev DMt := D → List D → Mst → DK → Prop
def RefM (K : PySem.W.Frag) (r : V → List V → Hp → VK → Prop) (q : DMt) : Prop := ∀ G H p M s x v ds vs (Q : DK) (Q' : VK), Sim K G H p M s → Rep K G x v → RepL K G ds vs → q x ds M Q →
  (∀ G' H' M' d w, Same G G' → Sim K G' H' p M' s → Rep K G' d w → Q d M' → Q' w H') → r v vs H Q'
structure QMt (X : Cx) (id : String) (r : V → List V → Hp → VK → Prop) (q : DMt) : Prop where
  op : MtR X id r
  rf : RefM X.K r q
def qBM (T : String) (m : DMt) (qo : DTE) (qa : DTA) : DTE := fun DW p M Q => qo DW p M fun x M1 => tyOk T (res M1 x) = true ∧ qa DW p M1 fun ds M2 => m x ds M2 Q
def qBM0 (T : String) (m : DMt) (qo : DTE) : DTE := fun DW p M Q => qo DW p M fun x M1 => tyOk T (res M1 x) = true ∧ m x [] M1 Q
section
variable {X : Cx} {W : WX} {o e : Expr} {es : List Expr} {to : TE} {qo : DTE} {t : TA} {qa : DTA} {name : Str} {apos cpos : Pos} {T id : String} {r : V → List V → Hp → VK → Prop} {m : DMt}
theorem q_bm0 (pa : PlainAttrs T) (slot : Slot T name id) (hty : typeOf (.builtin id) = pure (.type "method_descriptor")) (hm : QMt X id r m) (ho : QE X W o to qo)
    (hbase : attributeBase o name X.env (eval o X.env) = eval o X.env := by rfl) (hline : (apos.endLine == cpos.line) = true := by rfl) : QE X W (.Call (.Attribute o name apos) [] [] cpos) (tBM0 X.K T r to) (qBM0 T m qo) :=
  ⟨pe_bm0 pa slot hty hm.op ho.pe hbase hline, fun DW G H p M s Q Q' hw S h k => ho.rf DW G H p M s _ _ hw S h fun G1 H1 M1 x v e1 S1 r1 ⟨ty, h1⟩ => ⟨tyV_of S1 r1 ty, hm.rf G1 H1 p M1 s x v [] [] Q Q' S1 r1 rfl h1 fun G' H' M' d w e2 => k G' H' M' d w (e1.trans e2)⟩⟩
theorem q_bm (pa : PlainAttrs T) (slot : Slot T name id) (hty : typeOf (.builtin id) = pure (.type "method_descriptor")) (hm : QMt X id r m) (ho : QE X W o to qo) (ha : QA X W (e :: es) t qa)
    (hbase : attributeBase o name X.env (eval o X.env) = eval o X.env := by rfl)
    (hfew : ((backTo cpos (starEach (e :: es) X.env)).all (fun x => !x.1) && (backToKw cpos (keywordEach [] X.env)).all (fun x => x.1.isSome)
      && decide ((e :: es).length + ([] : List Keyword).length + (if ([] : List Keyword).isEmpty then 0 else 1) < 30)) = true := by rfl)
    (hline : (apos.endLine == cpos.line) = true := by rfl) (hs : starEach (e :: es) X.env = (false, eval e X.env) :: starEach es X.env := by rfl) (hplain : (backTo cpos (starEach es X.env)).any (·.1) = false := by rfl) :
    QE X W (.Call (.Attribute o name apos) (e :: es) [] cpos) (tBM X.K T r to t) (qBM T m qo qa) :=
  ⟨pe_bm pa slot hty hm.op ho.pe ha.pe hbase hfew hline hs hplain, fun DW G H p M s Q Q' hw S h k => ho.rf DW G H p M s _ _ hw S h fun G1 H1 M1 x v e1 S1 r1 ⟨ty, h1⟩ => ⟨tyV_of S1 r1 ty,
    ha.rf DW G1 H1 p M1 s _ _ (hw.mono e1) S1 h1 fun G2 H2 M2 ds vs e2 S2 r2 h2 => hm.rf G2 H2 p M2 s x v ds vs Q Q' S2 (Rep.mono e2 _ _ r1) r2 h2 fun G' H' M' d w e3 => k G' H' M' d w ((e1.trans e2).trans e3)⟩⟩
end
def mApp : DMt := fun x ds M Q => match x, ds with
  | .ref a, [d] => match M a with
    | some (.lst es) => es.length < 100000 ∧ Q .non (put M a (.lst (es ++ [d])))
    | _ => False
  | _, _ => False
def mExt : DMt := fun x ds M Q => match x, ds with
  | .ref a, [d] => match M a, res M d with
    | some (.lst es), .lst fs => es.length + fs.length ≤ 100000 ∧ Q .non (put M a (.lst (es ++ fs)))
    | _, _ => False
  | _, _ => False
def mPop : DMt := fun x ds M Q => match x, ds with
  | .ref a, [] => match M a with
    | some (.lst es) => match es[es.length - 1]? with
      | some d => Q d (put M a (.lst es.dropLast))
      | none => False
    | _ => False
  | _, _ => False
def mRev : DMt := fun x ds M Q => match x, ds with
  | .ref a, [] => match M a with
    | some (.lst es) => Q .non (put M a (.lst es.reverse))
    | _ => False
  | _, _ => False
def mClear : DMt := fun x ds M Q => match x, ds with
  | .ref a, [] => match M a with
    | some (.lst es) => Q .non (put M a (.lst []))
    | _ => False
  | _, _ => False
theorem RepL.dropLast {K : PySem.W.Frag} {G : Hp} {ds : List D} {vs : List V} (h : RepL K G ds vs) : RepL K G ds.dropLast vs.dropLast := by
  rw [List.dropLast_eq_take, List.dropLast_eq_take, h.length]
  exact RepL.take _ h
section
variable {X : Cx}
theorem m_append : QMt X "list.append" rAppend mApp := ⟨mt_append, fun G H p M s x v ds vs Q Q' S r1 r2 h k => by
  unfold mApp at h
  split at h
  · next a d =>
    cases r1
    obtain ⟨u, rfl, r3⟩ := repL1 r2
    split at h
    · next es em =>
      obtain ⟨hl, h⟩ := h
      obtain ⟨gn, us, g1, g2, g3⟩ := S.mem _ _ em
      have e1 := g2.length
      have z := sizeLine_eq
      refine ⟨a, us, u, rfl, rfl, g1, by omega, k G _ _ .non _ (Same.refl _) (S.put (mo := .lst (es ++ [d])) gn ⟨_, upd_same, RepL.append g2 (RepL.cons r3 rfl), ?_⟩) rfl h⟩
      rw [List.length_append]; simp; omega
    · exact h.elim
  · exact h.elim⟩
theorem m_extend : QMt X "list.extend" rExtend mExt := ⟨mt_extend, fun G H p M s x v ds vs Q Q' S r1 r2 h k => by
  unfold mExt at h
  split at h
  · next a d =>
    cases r1
    obtain ⟨u, rfl, r3⟩ := repL1 r2
    split at h
    · next es fs em ef =>
      obtain ⟨hl, h⟩ := h
      obtain ⟨gn, us, g1, g2, g3⟩ := S.mem _ _ em
      obtain ⟨b, ws, rfl, c1, c2, c3⟩ := as_lst S r3 ef
      have e1 := g2.length
      have e2 := c2.length
      have z := sizeLine_eq
      refine ⟨a, b, us, ws, rfl, rfl, g1, c1, by omega, k G _ _ .non _ (Same.refl _) (S.put (mo := .lst (es ++ fs)) gn ⟨_, upd_same, RepL.append g2 c2, ?_⟩) rfl h⟩
      rw [List.length_append]; omega
    · exact h.elim
  · exact h.elim⟩
theorem m_pop : QMt X "list.pop" rPop mPop := ⟨mt_pop, fun G H p M s x v ds vs Q Q' S r1 r2 h k => by
  unfold mPop at h
  split at h
  · next a =>
    cases r1
    cases r2
    split at h
    · next es em =>
      obtain ⟨gn, us, g1, g2, g3⟩ := S.mem _ _ em
      split at h
      · next d ed =>
        obtain ⟨w, h1, h2⟩ := g2.get ed
        have e1 := g2.length
        refine ⟨a, us, w, rfl, rfl, g1, by rw [e1]; exact h1, k G _ _ d _ (Same.refl _) (S.put (mo := .lst es.dropLast) gn ⟨_, upd_same, g2.dropLast, ?_⟩) h2 h⟩
        rw [List.length_dropLast]; omega
      · exact h.elim
    · exact h.elim
  · exact h.elim⟩
theorem m_reverse : QMt X "list.reverse" rReverse mRev := ⟨mt_reverse, fun G H p M s x v ds vs Q Q' S r1 r2 h k => by
  unfold mRev at h
  split at h
  · next a =>
    cases r1
    cases r2
    split at h
    · next es em =>
      obtain ⟨gn, us, g1, g2, g3⟩ := S.mem _ _ em
      exact ⟨a, us, rfl, rfl, g1, k G _ _ .non _ (Same.refl _) (S.put (mo := .lst es.reverse) gn ⟨_, upd_same, g2.reverse, by rw [List.length_reverse]; exact g3⟩) rfl h⟩
    · exact h.elim
  · exact h.elim⟩
theorem m_clear : QMt X "list.clear" rClear mClear := ⟨mt_clear, fun G H p M s x v ds vs Q Q' S r1 r2 h k => by
  unfold mClear at h
  split at h
  · next a =>
    cases r1
    cases r2
    split at h
    · next es em =>
      obtain ⟨gn, us, g1, g2, g3⟩ := S.mem _ _ em
      exact ⟨a, us, rfl, rfl, g1, k G _ _ .non _ (Same.refl _) (S.put (mo := .lst []) gn ⟨_, upd_same, rfl, Nat.zero_le _⟩) rfl h⟩
    · exact h.elim
  · exact h.elim⟩
end
/-- xs.count(y) of flat things -/
def rCntV (K : PySem.W.Frag) : V → List V → Hp → VK → Prop := fun x vs H Q => ∃ p xs y, x = .ref p ∧ vs = [y] ∧ SqL K H p xs ∧ flatV y = true ∧ xs.all flatV = true ∧ Q (.int (xs.countP fun z => eqV z y)) H
theorem count_eqU {x : V} : ∀ {xs : List V} {us : List Value}, Vals xs us → xs.all flatV = true → us.countP (eqU x) = xs.countP fun y => eqV y x
  | _, _, .nil, _ => rfl
  | y :: xs, u :: us, .cons r t, f => by
    rw [List.all_cons, Bool.and_eq_true] at f
    rw [List.countP_cons, List.countP_cons, eqU_of r f.1, count_eqU t f.2]
theorem mt_countV {X : Cx} : MtR X "list.count" (rCntV X.K) := by
  intro pins s σ H x xs v us Q I rx rxs h
  obtain ⟨p, ys, y, rfl, rfl, hs, fy, fys, q⟩ := h
  cases rx
  obtain ⟨u, rfl, ru⟩ := rxs.one
  obtain ⟨its, rv, ⟨⟨cls, dd, data, sl⟩, n, ho, hc, hdn, hd⟩, hlen⟩ := I.list hs
  simp only at hc hd
  subst hc hd
  refine call_meets PySem.F.slot_list_count ⟨_, ho, rfl⟩ PySem.F.entry_list_count (PySem.F.args_list_count_2 _ _)
    (SeqAt.list_countAt p its.toArray n dd sl u (eqU y)) ⟨ho, fun z hz => mem_eqAt ru fy rv fys z (by simpa using hz), ?_⟩
  have ec : its.toArray.toList.countP (eqU y) = ys.countP fun z => eqV z y := by rw [← count_eqU rv fys]
  refine ⟨.int (ys.countP fun z => eqV z y : Nat), H, I.tok _, ⟨s.toks, ?_⟩, q⟩
  rw [ec]
def mCount : DMt := fun x ds M Q => match ds with
  | [d] => match res M x with
    | .lst es => flatD d = true ∧ es.all flatD = true ∧ Q (.int (es.countP fun e => deq e d)) M
    | _ => False
  | _ => False
theorem countV_of {K : PySem.W.Frag} {G : Hp} {d : D} {v : V} (r : Rep K G d v) (h : flatD d = true) : ∀ {ds : List D} {vs : List V}, RepL K G ds vs → ds.all flatD = true → vs.all flatV = true ∧ (vs.countP fun z => eqV z v) = ds.countP fun e => deq e d
  | [], _, q, _ => by cases q; exact ⟨rfl, rfl⟩
  | e :: ds, _, ⟨w, vs, e1, h2, h3⟩, f => by
    subst e1
    have f' : flatD e = true ∧ ds.all flatD = true := by simpa using f
    obtain ⟨i1, i2⟩ := countV_of r h h3 f'.2
    obtain ⟨fv, _⟩ := flatD_of h2 f'.1
    have e2 := (flatD_of r h).2 e w h2 f'.1
    refine ⟨by simp [fv, i1], ?_⟩
    rw [List.countP_cons, List.countP_cons, i2, e2]
theorem m_count {X : Cx} : QMt X "list.count" (rCntV X.K) mCount := ⟨mt_countV, fun G H p M s x v ds vs Q Q' S r1 r2 h k => by
  unfold mCount at h
  split at h
  · next d =>
    obtain ⟨u, rfl, r3⟩ := repL1 r2
    split at h
    · next es e1 =>
      obtain ⟨f1, f2, h⟩ := h
      obtain ⟨a, us, rfl, g1, g2, g3⟩ := as_lst S r1 e1
      obtain ⟨i1, i2⟩ := countV_of r3 f1 g2 f2
      refine ⟨a, us, u, rfl, rfl, .inl (.inl g1), (flatD_of r3 f1).1, i1, k G H M (.int _) _ (Same.refl _) S rfl ?_⟩
      rw [i2]; exact h
    · exact h.elim
  · exact h.elim⟩

/-! ### dicts -/
def qDNew : DTE := fun _ _ M Q => ∀ a, M a = none → Q (.ref a) (put M a (.dK []))
def qDNewT : DTE := fun _ _ M Q => ∀ a, M a = none → Q (.ref a) (put M a (.dT []))
section
variable {X : Cx} {W : WX} {pos : Pos}
theorem q_dnew : QE X W (.Dict [] [] pos) tDNewK qDNew := ⟨pe_dnewK, fun DW G H p M s Q Q' hw S h k a ha =>
  k G _ _ (.ref a) _ (Same.refl _) (S.put (mo := .dK []) (S.same.free ha) ⟨[], upd_same, rfl, rfl, Nat.zero_le _, fun q hq => by cases hq⟩) rfl (h a (S.mem.fresh ha))⟩
theorem q_dnewT : QE X W (.Dict [] [] pos) tDNewT qDNewT := ⟨pe_dnewT, fun DW G H p M s Q Q' hw S h k a ha =>
  k G _ _ (.ref a) _ (Same.refl _) (S.put (mo := .dT []) (S.same.free ha) ⟨[], upd_same, rfl, rfl, Nat.zero_le _, fun q hq => by cases hq⟩) rfl (h a (S.mem.fresh ha))⟩
end
/-- d.get(k, x) -/
def isDict (M : Mst) : D → Bool
  | .dct _ _ => true
  | .ref a => match M a with
    | some (.dK _) => true
    | some (.dT _) => true
    | some (.lk _ _) => true
    | some (.lkT _ _) => true
    | _ => false
  | _ => false
def qDGet2 (qd qk qx : DTE) : DTE := fun DW p M Q => qd DW p M fun x M1 => isDict M1 x = true ∧ qk DW p M1 fun y M2 => qx DW p M2 fun z M3 => match dgetD M3 x y with
  | some o => Q (o.getD z) M3
  | none => False
def qDGet1 (qd qk : DTE) : DTE := fun DW p M Q => qd DW p M fun x M1 => isDict M1 x = true ∧ qk DW p M1 fun y M2 => match dgetD M2 x y with
  | some o => Q (o.getD .non) M2
  | none => False
theorem isD_of {K : PySem.W.Frag} {G H : Hp} {p : Rho} {M : Mst} {s : L2.St} {x : D} {v : V} (S : Sim K G H p M s) (r : Rep K G x v) (h : isDict M x = true) : ∃ a, v = .ref a ∧ IsD H a := by
  unfold isDict at h
  split at h
  · obtain ⟨a, kvs, rfl, h1, _⟩ := r
    exact ⟨a, rfl, .inl ⟨kvs, same_rd S.same h1⟩⟩
  · next a =>
    cases r
    refine ⟨a, rfl, ?_⟩
    split at h
    · next kvs em => obtain ⟨_, kv, h1, _⟩ := S.mem _ _ em; exact .inl ⟨kv, .inl h1⟩
    · next kvs em => obtain ⟨_, kv, h1, _⟩ := S.mem _ _ em; exact .inr ⟨kv, .inl h1⟩
    · next ho kvs em => obtain ⟨_, o, kv, h0, h1, _⟩ := S.mem _ _ em; exact .inl ⟨kv, .inr ⟨o, by rw [← h0]; exact h1⟩⟩
    · next ho kvs em => obtain ⟨_, o, kv, h0, h1, _⟩ := S.mem _ _ em; exact .inr ⟨kv, .inr ⟨o, by rw [← h0]; exact h1⟩⟩
    · cases h
  · cases h
section
variable {X : Cx} {W : WX} {o e f : Expr} {apos cpos : Pos} {td ty tx : TE} {qd qk qx : DTE}
theorem q_dget2 (hu : X.A.units + 1 < cLine) (ho : QE X W o td qd) (he : QE X W e ty qk) (hf : QE X W f tx qx) (m : M2 X o "get" apos e f cpos) : QE X W (.Call (.Attribute o "get" apos) [e, f] [] cpos) (tDGet2 td ty tx) (qDGet2 qd qk qx) :=
  ⟨pe_dget2 hu ho.pe he.pe hf.pe m, fun DW G H p M s Q Q' hw S h k => ho.rf DW G H p M s _ _ hw S h fun G1 H1 M1 x v e1 S1 r1 ⟨hd, h1⟩ => by
    obtain ⟨a, rfl, hD⟩ := isD_of S1 r1 hd
    refine ⟨a, rfl, hD, he.rf DW G1 H1 p M1 s _ _ (hw.mono e1) S1 h1 fun G2 H2 M2 y u e2 S2 r2 h2 => hf.rf DW G2 H2 p M2 s _ _ (hw.mono (e1.trans e2)) S2 h2 fun G3 H3 M3 z w e3 S3 r3 h3 => ?_⟩
    split at h3
    · next oo eo =>
      obtain ⟨a', ov, ea, g, q⟩ := dgetD_of S3 (Rep.mono (e2.trans e3) _ _ r1) (Rep.mono e3 _ _ r2) eo
      cases ea
      refine ⟨ov, g, ?_⟩
      rcases q with ⟨rfl, rfl⟩ | ⟨d', w', rfl, rfl, r'⟩
      · exact k G3 H3 M3 z _ ((e1.trans e2).trans e3) S3 r3 h3
      · exact k G3 H3 M3 d' _ ((e1.trans e2).trans e3) S3 r' h3
    · exact h3.elim⟩
theorem q_dget1 (hu : X.A.units + 1 < cLine) (ho : QE X W o td qd) (he : QE X W e ty qk) (m : M1 X o "get" apos e cpos) : QE X W (.Call (.Attribute o "get" apos) [e] [] cpos) (tDGet1 td ty) (qDGet1 qd qk) :=
  ⟨pe_dget1 hu ho.pe he.pe m, fun DW G H p M s Q Q' hw S h k => ho.rf DW G H p M s _ _ hw S h fun G1 H1 M1 x v e1 S1 r1 ⟨hd, h1⟩ => by
    obtain ⟨a, rfl, hD⟩ := isD_of S1 r1 hd
    refine ⟨a, rfl, hD, he.rf DW G1 H1 p M1 s _ _ (hw.mono e1) S1 h1 fun G2 H2 M2 y u e2 S2 r2 h2 => ?_⟩
    split at h2
    · next oo eo =>
      obtain ⟨a', ov, ea, g, q⟩ := dgetD_of S2 (Rep.mono e2 _ _ r1) r2 eo
      cases ea
      refine ⟨ov, g, ?_⟩
      rcases q with ⟨rfl, rfl⟩ | ⟨d', w', rfl, rfl, r'⟩
      · exact k G2 H2 M2 .non _ (e1.trans e2) S2 rfl h2
      · exact k G2 H2 M2 d' _ (e1.trans e2) S2 r' h2
    · exact h2.elim⟩
end

/-! ### a dict walked: it is locked meanwhile -/
/-- the mutable dict at a is read only, then as before -/
def qLock (sel : Rho → Mst → Option Addr) (q : DTS) : DTS := fun DW DE p M => match sel p M with
  | some a => match M a with
    | some (.dK kvs) => ∀ ho, q DW ⟨fun p' M' => M' a = some (.lk ho kvs) ∧ DE.nx p' (put M' a (.dK kvs)), fun d M' => M' a = some (.lk ho kvs) ∧ DE.rt d (put M' a (.dK kvs)), fun p' M' => M' a = some (.lk ho kvs) ∧ DE.bk p' (put M' a (.dK kvs)), fun p' M' => M' a = some (.lk ho kvs) ∧ DE.ct p' (put M' a (.dK kvs))⟩ p (put M a (.lk ho kvs))
    | some (.dT kvs) => ∀ ho, q DW ⟨fun p' M' => M' a = some (.lkT ho kvs) ∧ DE.nx p' (put M' a (.dT kvs)), fun d M' => M' a = some (.lkT ho kvs) ∧ DE.rt d (put M' a (.dT kvs)), fun p' M' => M' a = some (.lkT ho kvs) ∧ DE.bk p' (put M' a (.dT kvs)), fun p' M' => M' a = some (.lkT ho kvs) ∧ DE.ct p' (put M' a (.dT kvs))⟩ p (put M a (.lkT ho kvs))
    | _ => False
  | none => False
def qLockE (sel : Rho → Mst → Option Addr) (q : DTE) : DTE := fun DW p M Q => match sel p M with
  | some a => match M a with
    | some (.dK kvs) => ∀ ho, q DW p (put M a (.lk ho kvs)) fun d M' => M' a = some (.lk ho kvs) ∧ Q d (put M' a (.dK kvs))
    | some (.dT kvs) => ∀ ho, q DW p (put M a (.lkT ho kvs)) fun d M' => M' a = some (.lkT ho kvs) ∧ Q d (put M' a (.dT kvs))
    | _ => False
  | none => False
section
variable {X : Cx} {W : WX} {sel : Rho → Mst → Option Addr}
theorem qs_lock {st : Stmt} {t : TS} {q : DTS} (h : QS X W st t q) : QS X W st (tLock t) (qLock sel q) := ⟨ps_lock h.pe, fun DW G H p M s DE E hw S hq k => by
  unfold qLock at hq
  split at hq
  · next a _ =>
    split at hq
    · next kvs em =>
      obtain ⟨gn, kv, g1, g2, g3, g4, g5⟩ := S.mem _ _ em
      refine ⟨a, _, g1, trivial, fun od => ?_⟩
      have S1 : Sim X.K G (upd H a (.frz od (.dK kv))) p (put M a (.lk (.frz od (.dK kv)) kvs)) s := S.put (mo := .lk (.frz od (.dK kv)) kvs) gn ⟨od, kv, rfl, upd_same, g2, g3, g4, g5⟩
      have back : ∀ {G' H' p' M' s'}, Same G G' → Sim X.K G' H' p' M' s' → M' a = some (.lk (.frz od (.dK kv)) kvs) → H' a = some (.frz od (.dK kv)) ∧ Sim X.K G' (upd H' a (.dK kv)) p' (put M' a (.dK kvs)) s' := fun {G' H' p' M' s'} e S' em' => by
        obtain ⟨gn', o', kv', h0, h1, _⟩ := S'.mem _ _ em'
        exact ⟨h1, S'.put (mo := .dK kvs) gn' ⟨kv, upd_same, g2, RepL.mono e _ _ g3, g4, g5⟩⟩
      refine h.rf DW G _ p _ s _ _ hw S1 (hq (.frz od (.dK kv))) ⟨fun G' H' p' M' s' e S' ⟨h1, h2⟩ => ?_, fun G' H' p' M' s' d v e S' r ⟨h1, h2⟩ => ?_, fun G' H' p' M' s' e S' ⟨h1, h2⟩ => ?_, fun G' H' p' M' s' e S' ⟨h1, h2⟩ => ?_⟩
      · obtain ⟨b1, b2⟩ := back e S' h1; exact ⟨b1, k.nx _ _ _ _ _ e b2 h2⟩
      · obtain ⟨b1, b2⟩ := back e S' h1; exact ⟨b1, k.rt _ _ _ _ _ _ _ e b2 r h2⟩
      · obtain ⟨b1, b2⟩ := back e S' h1; exact ⟨b1, k.bk _ _ _ _ _ e b2 h2⟩
      · obtain ⟨b1, b2⟩ := back e S' h1; exact ⟨b1, k.ct _ _ _ _ _ e b2 h2⟩
    · next kvs em =>
      obtain ⟨gn, kv, g1, g2, g3, g4, g5⟩ := S.mem _ _ em
      refine ⟨a, _, g1, trivial, fun od => ?_⟩
      have S1 : Sim X.K G (upd H a (.frz od (.dT kv))) p (put M a (.lkT (.frz od (.dT kv)) kvs)) s := S.put (mo := .lkT (.frz od (.dT kv)) kvs) gn ⟨od, kv, rfl, upd_same, g2, g3, g4, g5⟩
      have back : ∀ {G' H' p' M' s'}, Same G G' → Sim X.K G' H' p' M' s' → M' a = some (.lkT (.frz od (.dT kv)) kvs) → H' a = some (.frz od (.dT kv)) ∧ Sim X.K G' (upd H' a (.dT kv)) p' (put M' a (.dT kvs)) s' := fun {G' H' p' M' s'} e S' em' => by
        obtain ⟨gn', o', kv', h0, h1, _⟩ := S'.mem _ _ em'
        exact ⟨h1, S'.put (mo := .dT kvs) gn' ⟨kv, upd_same, g2, RepL.mono e _ _ g3, g4, g5⟩⟩
      refine h.rf DW G _ p _ s _ _ hw S1 (hq (.frz od (.dT kv))) ⟨fun G' H' p' M' s' e S' ⟨h1, h2⟩ => ?_, fun G' H' p' M' s' d v e S' r ⟨h1, h2⟩ => ?_, fun G' H' p' M' s' e S' ⟨h1, h2⟩ => ?_, fun G' H' p' M' s' e S' ⟨h1, h2⟩ => ?_⟩
      · obtain ⟨b1, b2⟩ := back e S' h1; exact ⟨b1, k.nx _ _ _ _ _ e b2 h2⟩
      · obtain ⟨b1, b2⟩ := back e S' h1; exact ⟨b1, k.rt _ _ _ _ _ _ _ e b2 r h2⟩
      · obtain ⟨b1, b2⟩ := back e S' h1; exact ⟨b1, k.bk _ _ _ _ _ e b2 h2⟩
      · obtain ⟨b1, b2⟩ := back e S' h1; exact ⟨b1, k.ct _ _ _ _ _ e b2 h2⟩
    · exact hq.elim
  · exact hq.elim⟩
theorem q_lock {e : Expr} {t : TE} {q : DTE} (h : QE X W e t q) : QE X W e (tLockE t) (qLockE sel q) := ⟨pe_lock h.pe, fun DW G H p M s Q Q' hw S hq k => by
  unfold qLockE at hq
  split at hq
  · next a _ =>
    split at hq
    · next kvs em =>
      obtain ⟨gn, kv, g1, g2, g3, g4, g5⟩ := S.mem _ _ em
      refine ⟨a, _, g1, trivial, fun od => ?_⟩
      have S1 : Sim X.K G (upd H a (.frz od (.dK kv))) p (put M a (.lk (.frz od (.dK kv)) kvs)) s := S.put (mo := .lk (.frz od (.dK kv)) kvs) gn ⟨od, kv, rfl, upd_same, g2, g3, g4, g5⟩
      refine h.rf DW G _ p _ s _ _ hw S1 (hq (.frz od (.dK kv))) fun G' H' M' d v e S' r ⟨h1, h2⟩ => ?_
      obtain ⟨gn', o', kv', c0, c1, _⟩ := S'.mem _ _ h1
      exact ⟨c1, k G' _ _ d v e (S'.put (mo := .dK kvs) gn' ⟨kv, upd_same, g2, RepL.mono e _ _ g3, g4, g5⟩) r h2⟩
    · next kvs em =>
      obtain ⟨gn, kv, g1, g2, g3, g4, g5⟩ := S.mem _ _ em
      refine ⟨a, _, g1, trivial, fun od => ?_⟩
      have S1 : Sim X.K G (upd H a (.frz od (.dT kv))) p (put M a (.lkT (.frz od (.dT kv)) kvs)) s := S.put (mo := .lkT (.frz od (.dT kv)) kvs) gn ⟨od, kv, rfl, upd_same, g2, g3, g4, g5⟩
      refine h.rf DW G _ p _ s _ _ hw S1 (hq (.frz od (.dT kv))) fun G' H' M' d v e S' r ⟨h1, h2⟩ => ?_
      obtain ⟨gn', o', kv', c0, c1, _⟩ := S'.mem _ _ h1
      exact ⟨c1, k G' _ _ d v e (S'.put (mo := .dT kvs) gn' ⟨kv, upd_same, g2, RepL.mono e _ _ g3, g4, g5⟩) r h2⟩
    · exact hq.elim
  · exact hq.elim⟩
end
def kD : Key → D
  | .inl i => .int i
  | .inr x => .str x
theorem rep_key {K : PySem.W.Frag} {G : Hp} {k : Key} (h : kOk k) : Rep K G (kD k) (kV k) := by
  cases k with
  | inl i => rfl
  | inr x => exact ⟨rfl, h⟩
theorem rep_keys {K : PySem.W.Frag} {G : Hp} : ∀ {ks : List Key}, (∀ k ∈ ks, kOk k) → RepL K G (ks.map kD) (ks.map kV)
  | [], _ => rfl
  | k :: ks, h => ⟨kV k, _, rfl, rep_key (h k (List.mem_cons_self ..)), rep_keys fun q hq => h q (List.mem_cons_of_mem _ hq)⟩
/-- a tuple that stands in the heap is known for good -/
theorem Sim.adopt {K : PySem.W.Frag} {G H : Hp} {p : Rho} {M : Mst} {s : L2.St} {a : Addr} {ds : List D} {vs : List V} (S : Sim K G H p M s) (h : H a = some (.tup vs)) (r : RepL K G ds vs) (hl : vs.length ≤ sizeLine) : ∃ G', Same G G' ∧ Sim K G' H p M s ∧ Rep K G' (.tup ds) (.ref a) := by
  cases eg : G a with
  | some o =>
    have := S.same _ _ eg
    rw [h] at this; cases this
    exact ⟨G, Same.refl _, S, a, vs, rfl, eg, r, hl⟩
  | none =>
    have e : Same G (upd G a (.tup vs)) := same_new eg
    have mn : ∀ b u, M b = some u → b ≠ a := fun b u q z => by
      subst z
      have := (S.mem _ _ q).2
      cases u with
      | lst _ => obtain ⟨_, h1, _⟩ := this; rw [h] at h1; cases h1
      | dK _ => obtain ⟨_, h1, _⟩ := this; rw [h] at h1; cases h1
      | dT _ => obtain ⟨_, h1, _⟩ := this; rw [h] at h1; cases h1
      | ins _ _ => obtain ⟨_, _, h1, _⟩ := this; rw [h] at h1; cases h1
      | lk _ _ => obtain ⟨_, _, h0, h1, _⟩ := this; rw [h0, h] at h1; cases h1
      | lkT _ _ => obtain ⟨_, _, h0, h1, _⟩ := this; rw [h0, h] at h1; cases h1
      | bag => obtain ⟨_, _, h1, _⟩ := this; rw [h] at h1; cases h1
    refine ⟨_, e, ⟨fun b u q => ?_, fun i d q => ?_, S.len, fun b u q => ⟨by rw [upd_ne (mn b u q)]; exact (S.mem b u q).1, (S.mem b u q).2.mono e rfl⟩⟩, a, vs, rfl, upd_same, RepL.mono e _ _ r, hl⟩
    · by_cases z : b = a
      · subst z; rw [upd_same] at q; cases q; exact h
      · rw [upd_ne z] at q; exact S.same _ _ q
    · obtain ⟨v, r1, r2⟩ := S.env i d q
      exact ⟨v, r1, Rep.mono e _ _ r2⟩
def qiKeys (qe : DTE) : DTI := fun DW p M R => qe DW p M fun d M1 => match d with
  | .ref a => match M1 a with
    | some (.lk ho kvs) => R (kvs.map fun q => kD q.1) (holds a (.lk ho kvs)) M1
    | some (.lkT ho kvs) => R (kvs.map fun q => .tup (q.1.map kD)) (holds a (.lkT ho kvs)) M1
    | _ => False
  | _ => False
def qiVals (qe : DTE) : DTI := fun DW p M R => qe DW p M fun d M1 => match d with
  | .ref a => match M1 a with
    | some (.lk ho kvs) => R (kvs.map fun q => q.2) (holds a (.lk ho kvs)) M1
    | _ => False
  | _ => False
def qiItems (qe : DTE) : DTI := fun DW p M R => qe DW p M fun d M1 => match d with
  | .ref a => match M1 a with
    | some (.lk ho kvs) => R (kvs.map fun q => .tup [kD q.1, q.2]) (holds a (.lk ho kvs)) M1
    | _ => False
  | _ => False
theorem pair_at {κ : Type} {kvs : List (κ × D)} {kv : List (κ × V)} (h : kv.map (·.1) = kvs.map (·.1)) {i : Nat} {q : κ × D} {k : κ} {v : V} (h1 : kvs[i]? = some q) (h2 : kv[i]? = some (k, v)) : k = q.1 := by
  have e1 : (kv.map (·.1))[i]? = some k := by simp [h2]
  rw [h] at e1
  simp [h1] at e1
  exact e1.symm
section
variable {X : Cx} {W : WX} {tg e : Expr} {td : TE} {qd : DTE} {apos cpos : Pos}
theorem qi_keys (he : QE X W e td qd) : QI X W tg e (iKeys td) (qiKeys qd) := ⟨pi_keys he.pe, fun DW G H p M s R R' hw S h k => he.rf DW G H p M s _ _ hw S h fun G1 H1 M1 d v e1 S1 r1 h1 => by
  split at h1
  · next a =>
    cases r1
    split at h1
    · next ho kvs em =>
      obtain ⟨gn, o, kv, c0, c1, c2, c3, c4, c5⟩ := S1.mem _ _ em
      subst c0
      have hl : kv.length = kvs.length := by have := congrArg List.length c2; simpa using this
      refine ⟨a, o, rfl, .inl ⟨kv, c1, k G1 H1 M1 _ _ _ e1 S1 ⟨fun G' H p M s i e S st hi => ?_, fun G' H p M s i x H' e S st y d hd => ?_, fun G' H p M s e S st => ?_⟩ (by rw [List.length_map, ← hl]; exact c4) h1⟩⟩
      · obtain ⟨_, o', kv', b0, b1, _⟩ := S.mem _ _ st
        exact ⟨b1, by simpa [hl] using hi⟩
      · obtain ⟨rfl, kk, vv, y1, rfl⟩ := y
        simp only [List.getElem?_map, Option.map_eq_some_iff] at hd
        obtain ⟨q, q1, rfl⟩ := hd
        have := pair_at c2 q1 y1
        subst this
        exact ⟨G', Same.refl _, S, rep_key (c5 q (List.mem_of_getElem? q1))⟩
      · obtain ⟨_, o', kv', b0, b1, _⟩ := S.mem _ _ st
        exact ⟨b1, by simp [hl]⟩
    · next ho kvs em =>
      obtain ⟨gn, o, kv, c0, c1, c2, c3, c4, c5⟩ := S1.mem _ _ em
      subst c0
      have hl : kv.length = kvs.length := by have := congrArg List.length c2; simpa using this
      refine ⟨a, o, rfl, .inr ⟨kv, c1, k G1 H1 M1 _ _ _ e1 S1 ⟨fun G' H p M s i e S st hi => ?_, fun G' H p M s i x H' e S st y d hd => ?_, fun G' H p M s e S st => ?_⟩ (by rw [List.length_map, ← hl]; exact c4) h1⟩⟩
      · obtain ⟨_, o', kv', b0, b1, _⟩ := S.mem _ _ st
        exact ⟨b1, by simpa [hl] using hi⟩
      · obtain ⟨rfl, kk, vv, q', y1, rfl, y2⟩ := y
        simp only [List.getElem?_map, Option.map_eq_some_iff] at hd
        obtain ⟨q, q1, rfl⟩ := hd
        have := pair_at c2 q1 y1
        subst this
        obtain ⟨l1, l2⟩ := c5 q (List.mem_of_getElem? q1)
        exact S.adopt y2 (rep_keys l2) (by simpa using l1)
      · obtain ⟨_, o', kv', b0, b1, _⟩ := S.mem _ _ st
        exact ⟨b1, by simp [hl]⟩
    · exact h1.elim
  · exact h1.elim⟩
theorem qi_values (he : QE X W e td qd) (hbase : attributeBase e "values" X.env (eval e X.env) = eval e X.env := by rfl) (hline : (apos.endLine == cpos.line) = true := by rfl) : QI X W tg (.Call (.Attribute e "values" apos) [] [] cpos) (iVals td) (qiVals qd) :=
  ⟨pi_values he.pe hbase hline, fun DW G H p M s R R' hw S h k => he.rf DW G H p M s _ _ hw S h fun G1 H1 M1 d v e1 S1 r1 h1 => by
  split at h1
  · next a =>
    cases r1
    split at h1
    · next ho kvs em =>
      obtain ⟨gn, o, kv, c0, c1, c2, c3, c4, c5⟩ := S1.mem _ _ em
      subst c0
      have hl : kv.length = kvs.length := by have := congrArg List.length c2; simpa using this
      refine ⟨a, o, kv, rfl, c1, k G1 H1 M1 _ _ _ e1 S1 ⟨fun G' H p M s i e S st hi => ?_, fun G' H p M s i x H' e S st y d hd => ?_, fun G' H p M s e S st => ?_⟩ (by rw [List.length_map, ← hl]; exact c4) h1⟩
      · obtain ⟨_, o', kv', b0, b1, _⟩ := S.mem _ _ st
        exact ⟨b1, by simpa [hl] using hi⟩
      · obtain ⟨rfl, kk, y1⟩ := y
        obtain ⟨v, h1, h2⟩ := (RepL.mono e _ _ c3).get hd
        simp only [List.getElem?_map, y1, Option.map_some, Option.some.injEq] at h1
        subst h1
        exact ⟨G', Same.refl _, S, h2⟩
      · obtain ⟨_, o', kv', b0, b1, _⟩ := S.mem _ _ st
        exact ⟨b1, by simp [hl]⟩
    · exact h1.elim
  · exact h1.elim⟩
theorem qi_items {elts : List Expr} {kk : Nat} {tpos : Pos} (he : QE X W e td qd) (hbase : attributeBase e "items" X.env (eval e X.env) = eval e X.env := by rfl) (hline : (apos.endLine == cpos.line) = true := by rfl) :
    QI X W (.Tuple elts kk tpos) (.Call (.Attribute e "items" apos) [] [] cpos) (iItems td) (qiItems qd) :=
  ⟨pi_items he.pe hbase hline, fun DW G H p M s R R' hw S h k => he.rf DW G H p M s _ _ hw S h fun G1 H1 M1 d v e1 S1 r1 h1 => by
  split at h1
  · next a =>
    cases r1
    split at h1
    · next ho kvs em =>
      obtain ⟨gn, o, kv, c0, c1, c2, c3, c4, c5⟩ := S1.mem _ _ em
      subst c0
      have hl : kv.length = kvs.length := by have := congrArg List.length c2; simpa using this
      refine ⟨a, o, kv, rfl, c1, k G1 H1 M1 _ _ _ e1 S1 ⟨fun G' H p M s i e S st hi => ?_, fun G' H p M s i x H' e S st y d hd => ?_, fun G' H p M s e S st => ?_⟩ (by rw [List.length_map, ← hl]; exact c4) h1⟩
      · obtain ⟨_, o', kv', b0, b1, _⟩ := S.mem _ _ st
        exact ⟨b1, by simpa [hl] using hi⟩
      · obtain ⟨T, k', v', y1, rfl, y2, rfl⟩ := y
        simp only [List.getElem?_map, Option.map_eq_some_iff] at hd
        obtain ⟨q, q1, rfl⟩ := hd
        have := pair_at c2 q1 y1
        subst this
        obtain ⟨e2, S2⟩ := S.made (o := .tup [kV q.1, v']) y2
        obtain ⟨w, w1, w2⟩ := (RepL.mono e _ _ c3).get (i := i) (d := q.2) (by simp [q1])
        simp only [List.getElem?_map, y1, Option.map_some, Option.some.injEq] at w1
        subst w1
        exact ⟨_, e2, S2, T, _, rfl, upd_same, RepL.mono e2 _ _ (RepL.cons (rep_key (c5 q (List.mem_of_getElem? q1))) (RepL.cons w2 rfl)), sz1000 (by simp)⟩
      · obtain ⟨_, o', kv', b0, b1, _⟩ := S.mem _ _ st
        exact ⟨b1, by simp [hl]⟩
    · exact h1.elim
  · exact h1.elim⟩
end
end DL

/-! DLh: what will change no more; enumerate, zip; sorted; sets. -/
namespace DL
open PySem L2

/-! ### ghost: what a slot holds will change no more -/
def frz (i : Nat) (p : Rho) (M : Mst) (R : Rho → Mst → Prop) : Prop := match p[i]? with
  | some (some (.ref a)) => match M a with
    | some (.lst ds) => R (p.set i (some (.lst ds))) (del M a)
    | some (.dK kvs) => R (p.set i (some (.dct (kvs.map (·.1)) (kvs.map (·.2))))) (del M a)
    | some (.ins C fs) => R (p.set i (some (.ins C (fs.map (·.1)) (fs.map (·.2))))) (del M a)
    | _ => False
  | _ => False
def qFrz (i : Nat) (q : DTS) : DTS := fun DW DE p M => frz i p M (q DW DE)
theorem Sim.slot {K : PySem.W.Frag} {G H : Hp} {p : Rho} {M : Mst} {s : L2.St} {i : Nat} {a : Addr} {d : D} (S : Sim K G H p M s) (h : ∃ v, s[i]? = some (some v) ∧ v = .ref a) (r : Rep K G d (.ref a)) : Sim K G H (p.set i (some d)) M s := by
  obtain ⟨v, h1, rfl⟩ := h
  refine ⟨S.same, fun j e h => ?_, by rw [List.length_set]; exact S.len, S.mem⟩
  rw [List.getElem?_set] at h
  split at h
  · next z =>
    subst z
    split at h
    · cases h; exact ⟨_, h1, r⟩
    · cases h
  · exact S.env j e h
theorem qs_frz {X : Cx} {W : WX} {st : Stmt} {t : TS} {q : DTS} (i : Nat) (h : QS X W st t q) : QS X W st t (qFrz i q) := ⟨h.pe, fun DW G H p M s DE E hw S hq k => by
  unfold qFrz frz at hq
  split at hq
  · next a ei =>
    obtain ⟨v, s1, r1⟩ := S.env i _ ei
    have hv : ∃ v, s[i]? = some (some v) ∧ v = .ref a := ⟨v, s1, r1⟩
    split at hq
    · next ds em =>
      obtain ⟨G', e, S', r⟩ := S.freeze em
      exact h.rf DW G' H _ _ s DE E (hw.mono e) (S'.slot hv r) hq (k.mono e)
    · next kvs em =>
      obtain ⟨G', e, S', r⟩ := S.freezeD em
      exact h.rf DW G' H _ _ s DE E (hw.mono e) (S'.slot hv r) hq (k.mono e)
    · next C fs em =>
      obtain ⟨G', e, S', r⟩ := S.freezeI em
      exact h.rf DW G' H _ _ s DE E (hw.mono e) (S'.slot hv r) hq (k.mono e)
    · exact hq.elim
  · exact hq.elim⟩
/-- what is locked: the dict in slot i; the field f of what slot i holds -/
def selN (i : Nat) : Rho → Mst → Option Addr := fun p _ => match p[i]? with
  | some (some (.ref a)) => some a
  | _ => none
def selA (i : Nat) (f : Str) : Rho → Mst → Option Addr := fun p M => match p[i]? with
  | some (some (.ref a)) => match M a with
    | some (.ins _ fs) => match fs.find? (fun q => q.1 == f) with
      | some (_, .ref b) => some b
      | _ => none
    | _ => none
  | _ => none

/-! ### enumerate, zip -/
def enumD : Nat → List D → List D
  | _, [] => []
  | n, d :: ds => .tup [.int n, d] :: enumD (n + 1) ds
@[simp] theorem enumD_length : ∀ (n : Nat) (ds : List D), (enumD n ds).length = ds.length
  | _, [] => rfl
  | n, d :: ds => by simp [enumD, enumD_length]
theorem enumD_get : ∀ (n : Nat) (ds : List D) (i : Nat), (enumD n ds)[i]? = (ds[i]?).map fun d => .tup [.int ((n + i : Nat) : Int), d]
  | _, [], i => by simp [enumD]
  | n, d :: ds, 0 => by simp [enumD]
  | n, d :: ds, i + 1 => by
    have e : n + 1 + i = n + (i + 1) := by omega
    simp only [enumD, List.getElem?_cons_succ, enumD_get (n + 1) ds i, e]
def zipD : List D → List D → List D
  | a :: as, b :: bs => .tup [a, b] :: zipD as bs
  | _, _ => []
theorem zipD_get : ∀ (as bs : List D) (i : Nat), (zipD as bs)[i]? = match as[i]?, bs[i]? with | some a, some b => some (.tup [a, b]) | _, _ => none
  | a :: as, b :: bs, 0 => by simp [zipD]
  | a :: as, b :: bs, i + 1 => by simp [zipD, zipD_get as bs i]
  | [], bs, i => by simp [zipD]
  | a :: as, [], i => by simp [zipD]
@[simp] theorem zipD_length : ∀ (as bs : List D), (zipD as bs).length = min as.length bs.length
  | a :: as, b :: bs => by simp [zipD, zipD_length as bs]
  | [], bs => by simp [zipD]
  | a :: as, [] => by simp [zipD]
/-- the things of a list, frozen or not, and what keeps them -/
def lstAt (M : Mst) : D → Option (List D × (Mst → Prop))
  | .lst ds => some (ds, always)
  | .ref a => match M a with
    | some (.lst ds) => some (ds, holds a (.lst ds))
    | _ => none
  | _ => none
theorem lstAt_of {K : PySem.W.Frag} {G H : Hp} {p : Rho} {M : Mst} {s : L2.St} {d : D} {v : V} {ds : List D} {Sty : Mst → Prop} (S : Sim K G H p M s) (r : Rep K G d v) (h : lstAt M d = some (ds, Sty)) : Sty M ∧ ∃ a, v = .ref a ∧ ds.length ≤ sizeLine ∧
    ∀ G' H' p' M' s', Same G G' → Sim K G' H' p' M' s' → Sty M' → ∃ us, SqL K H' a us ∧ RepL K G' ds us := by
  unfold lstAt at h
  split at h
  · cases h
    obtain ⟨a, vs, rfl, g1, g2, g3⟩ := r
    exact ⟨trivial, a, rfl, by rw [← g2.length]; exact g3, fun G' H' p' M' s' e S' _ => ⟨vs, .inl (.inl (S'.same _ _ (e _ _ g1))), RepL.mono e _ _ g2⟩⟩
  · next a =>
    split at h
    · next ds' em =>
      cases h
      cases r
      obtain ⟨gn, vs, g1, g2, g3⟩ := S.mem _ _ em
      refine ⟨em, a, rfl, by rw [← g2.length]; exact g3, fun G' H' p' M' s' e S' st => ?_⟩
      obtain ⟨_, us, c1, c2, _⟩ := S'.mem _ _ st
      exact ⟨us, .inl (.inl c1), c2⟩
    · cases h
  · cases h
theorem get_lt {α : Type} {xs : List α} {i : Nat} (h : i < xs.length) : ∃ x, xs[i]? = some x := ⟨_, List.getElem?_eq_getElem h⟩
def qiEnum (qa : DTA) : DTI := fun DW p M R => qa DW p M fun ds M1 => match ds with
  | [x] => match lstAt M1 x with
    | some (es, Sty) => R (enumD 0 es) Sty M1
    | none => False
  | _ => False
def qiZip (qa : DTA) : DTI := fun DW p M R => qa DW p M fun ds M1 => match ds with
  | [x, y] => match lstAt M1 x, lstAt M1 y with
    | some (es, St1), some (fs, St2) => R (zipD es fs) (fun M => St1 M ∧ St2 M) M1
    | _, _ => False
  | _ => False
section
variable {X : Cx} {W : WX} {e e2 : Expr} {ta : TA} {qa : DTA} {p pos tpos : Pos} {elts : List Expr} {kk : Nat}
theorem qi_enum (hg : Gl X "enumerate") (hm : X.mg "enumerate" = none) (ha : QA X W [e] ta qa) (hs : starEach [e] X.env = [(false, eval e X.env)] := by rfl) :
    QI X W (.Tuple elts kk tpos) (.Call (.Name "enumerate" p) [e] [] pos) (iEnum X.K ta) (qiEnum qa) :=
  ⟨pi_enum hg hm ha.pe hs, fun DW G H p M s R R' hw S h k => ha.rf DW G H p M s _ _ hw S h fun G1 H1 M1 ds vs e1 S1 r1 h1 => by
    split at h1
    · next x =>
      obtain ⟨v, rfl, r2⟩ := repL1 r1
      split at h1
      · next es Sty el =>
        obtain ⟨hst, a, rfl, hlen, lk⟩ := lstAt_of S1 r2 el
        obtain ⟨us, u1, _⟩ := lk G1 H1 p M1 s (Same.refl _) S1 hst
        refine ⟨a, us, rfl, u1, k G1 H1 M1 _ _ _ e1 S1 ⟨fun G' H p M s i e S st hi => ?_, fun G' H p M s i x H' e S st y d hd => ?_, fun G' H p M s e S st => ?_⟩ (by rw [enumD_length]; exact hlen) h1⟩
        · obtain ⟨us, c1, c2⟩ := lk G' H p M s e S st
          rw [enumD_length, ← c2.length] at hi
          obtain ⟨x, hx⟩ := get_lt hi
          exact ⟨us, x, c1, hx⟩
        · obtain ⟨us, c1, c2⟩ := lk G' H p M s e S st
          obtain ⟨T, x', rfl, hT, rfl, y⟩ := y
          rw [enumD_get] at hd
          cases ed : es[i]? with
          | none => rw [ed] at hd; cases hd
          | some d' =>
            rw [ed] at hd
            simp only [Option.map_some, Option.some.injEq, Nat.zero_add] at hd
            subst hd
            obtain ⟨w, w1, w2⟩ := c2.get ed
            rw [y us c1] at w1; cases w1
            obtain ⟨e2, S2⟩ := S.made (o := .tup [.int (i : Nat), x']) hT
            exact ⟨_, e2, S2, T, _, rfl, upd_same, RepL.mono e2 _ _ (RepL.cons (d := .int (i : Nat)) rfl (RepL.cons w2 rfl)), sz1000 (by simp)⟩
        · obtain ⟨us, c1, c2⟩ := lk G' H p M s e S st
          exact ⟨us, c1, by rw [enumD_length, c2.length]; exact Nat.le_refl _⟩
      · exact h1.elim
    · exact h1.elim⟩
theorem qi_zip (hg : Gl X "zip") (hm : X.mg "zip" = none) (ha : QA X W [e, e2] ta qa)
    (hs : starEach [e, e2] X.env = (false, eval e X.env) :: starEach [e2] X.env := by rfl) (hpl : (backTo pos (starEach [e2] X.env)).any (·.1) = false := by rfl) :
    QI X W (.Tuple elts kk tpos) (.Call (.Name "zip" p) [e, e2] [] pos) (iZip X.K ta) (qiZip qa) :=
  ⟨pi_zip hg hm ha.pe hs hpl, fun DW G H p M s R R' hw S h k => ha.rf DW G H p M s _ _ hw S h fun G1 H1 M1 ds vs e1 S1 r1 h1 => by
    split at h1
    · next x y =>
      obtain ⟨v, u, rfl, r2, r3⟩ := repL2 r1
      split at h1
      · next es St1 fs St2 el1 el2 =>
        obtain ⟨hst1, a, rfl, hlen1, lk1⟩ := lstAt_of S1 r2 el1
        obtain ⟨hst2, b, rfl, hlen2, lk2⟩ := lstAt_of S1 r3 el2
        obtain ⟨us, u1, _⟩ := lk1 G1 H1 p M1 s (Same.refl _) S1 hst1
        obtain ⟨ws, w1, _⟩ := lk2 G1 H1 p M1 s (Same.refl _) S1 hst2
        refine ⟨a, b, us, ws, rfl, u1, w1, k G1 H1 M1 _ _ _ e1 S1 ⟨fun G' H p M s i e S st hi => ?_, fun G' H p M s i x H' e S st y d hd => ?_, fun G' H p M s e S st => ?_⟩ (by rw [zipD_length]; omega) h1⟩
        · obtain ⟨us, c1, c2⟩ := lk1 G' H p M s e S st.1
          obtain ⟨ws, d1, d2⟩ := lk2 G' H p M s e S st.2
          rw [zipD_length] at hi
          obtain ⟨x, hx⟩ := get_lt (xs := us) (i := i) (by rw [c2.length]; omega)
          obtain ⟨y, hy⟩ := get_lt (xs := ws) (i := i) (by rw [d2.length]; omega)
          exact ⟨us, ws, x, y, c1, d1, hx, hy⟩
        · obtain ⟨us, c1, c2⟩ := lk1 G' H p M s e S st.1
          obtain ⟨ws, d1, d2⟩ := lk2 G' H p M s e S st.2
          obtain ⟨T, x', y', rfl, hT, rfl, y1, y2⟩ := y
          rw [zipD_get] at hd
          split at hd
          · next d' d'' ed1 ed2 =>
            cases hd
            obtain ⟨w, w1, w2⟩ := c2.get ed1
            rw [y1 us c1] at w1; cases w1
            obtain ⟨w, w1, w3⟩ := d2.get ed2
            rw [y2 ws d1] at w1; cases w1
            obtain ⟨e2, S2⟩ := S.made (o := .tup [x', y']) hT
            exact ⟨_, e2, S2, T, _, rfl, upd_same, RepL.mono e2 _ _ (RepL.cons w2 (RepL.cons w3 rfl)), sz1000 (by simp)⟩
          · cases hd
        · obtain ⟨us, c1, c2⟩ := lk1 G' H p M s e S st.1
          obtain ⟨ws, d1, d2⟩ := lk2 G' H p M s e S st.2
          refine ⟨us, ws, c1, d1, ?_⟩
          rw [zipD_length, c2.length, d2.length]; omega
      · exact h1.elim
    · exact h1.elim⟩
end

/-! ### sorted: a list of whole numbers, a dict's keys -/
def intsL : List D → Option (List Int)
  | [] => some []
  | .int i :: ds => match intsL ds with
    | some is => some (i :: is)
    | none => none
  | _ :: _ => none
theorem intsL_eq : ∀ {ds : List D} {ns : List Int}, intsL ds = some ns → ds = ns.map .int
  | [], ns, h => by cases h; rfl
  | d :: ds, ns, h => by
    unfold intsL at h
    split at h
    · next e => cases e
    · next i ds' e =>
      cases e
      split at h
      · next is e => cases h; rw [intsL_eq e]; rfl
      · cases h
    · cases h
@[simp] theorem intsL_map : ∀ ns : List Int, intsL (ns.map D.int) = some ns
  | [] => rfl
  | n :: ns => by simp [intsL, intsL_map ns]
theorem repL_ints {K : PySem.W.Frag} {G : Hp} : ∀ {ns : List Int} {vs : List V}, RepL K G (ns.map D.int) vs → vs = ns.map V.int
  | [], _, h => by cases h; rfl
  | n :: ns, _, ⟨v, q, h1, h2, h3⟩ => by cases h1; cases h2; rw [repL_ints h3]; rfl
theorem repL_intsR {K : PySem.W.Frag} {G : Hp} : ∀ {ns : List Int}, RepL K G (ns.map D.int) (ns.map V.int)
  | [] => rfl
  | n :: ns => ⟨_, _, rfl, rfl, repL_intsR⟩
def intKeys : List Key → Option (List Int)
  | [] => some []
  | .inl i :: ks => match intKeys ks with
    | some is => some (i :: is)
    | none => none
  | _ :: _ => none
theorem intKeys_eq : ∀ {ks : List Key} {ns : List Int}, intKeys ks = some ns → ks = ns.map Sum.inl
  | [], ns, h => by cases h; rfl
  | d :: ds, ns, h => by
    unfold intKeys at h
    split at h
    · next e => cases e
    · next i ds' e =>
      cases e
      split at h
      · next is e => cases h; rw [intKeys_eq e]; rfl
      · cases h
    · cases h
@[simp] theorem intKeys_map : ∀ ns : List Int, intKeys (ns.map Sum.inl) = some ns
  | [] => rfl
  | n :: ns => by simp [intKeys, intKeys_map ns]
def dSorted (m : Bool) : DCa := fun ds M Q => match ds with
  | [x] => match res M x with
    | .lst es => match intsL es with
      | some ns => ∀ ns' : List Int, ns'.Perm ns → ns'.Pairwise (· ≤ ·) → newL m (ns'.map .int) M Q
      | none => False
    | .dct ks _ => match intKeys ks with
      | some ns => ns.length < 64 ∧ ∀ ns' : List Int, ns'.Perm ns → ns'.Pairwise (· ≤ ·) → newL m (ns'.map .int) M Q
      | none => False
    | _ => False
  | _ => False
def rSortD : List V → Hp → VK → Prop := fun xs H Q => ∃ (a : Addr) (kvs : List (Key × V)) (ks : List Int), xs = [.ref a] ∧ Rd H a (.dK kvs) ∧ kvs.map (·.1) = ks.map Sum.inl ∧ ks.length < 64 ∧
    ∀ (ys : List Int) (p : Addr), ys.Perm ks → ys.Pairwise (· ≤ ·) → H p = none → Q (.ref p) (upd H p (.lst (ys.map V.int)))
theorem c_sorted {X : Cx} (m : Bool) (hc : X.calm = true) : QCa X (.builtin "sorted") (fun xs H Q => rSortedI X.K xs H Q ∨ rSortD xs H Q) (dSorted m) := ⟨cr_sortedI.or (call_sortedDI hc), fun G H p M s ds vs Q Q' S r h k => by
  unfold dSorted at h
  split at h
  · next x =>
    obtain ⟨v, rfl, r1⟩ := repL1 r
    split at h
    · next es e1 =>
      obtain ⟨a, us, rfl, g1, g2, g3⟩ := as_lst S r1 e1
      split at h
      · next ns en =>
        have ee := intsL_eq en
        subst ee
        have eu := repL_ints g2
        subst eu
        refine .inl ⟨a, ns, rfl, .inl (.inl g1), fun ns' q hp hw hn => newL_ok S hn repL_intsR (by rw [List.length_map] at g3 ⊢; rw [hp.length_eq]; exact g3) (h ns' hp hw) k⟩
      · exact h.elim
    · next ks fs e1 =>
      obtain ⟨a, kvs, rfl, g1, g2, g3, g4, g5⟩ := as_dct S r1 e1
      split at h
      · next ns en =>
        have ee := intKeys_eq en
        subst ee
        refine .inr ⟨a, kvs, ns, rfl, g1, g2, h.1, fun ns' q hp hw hn => newL_ok S hn repL_intsR (sz1000 (by rw [List.length_map, hp.length_eq]; omega)) (h.2 ns' hp hw) k⟩
      · exact h.elim
    · exact h.elim
  · exact h.elim⟩
/-! ### set(xs) of a list of whole numbers, walked in order -/
section
variable {P : Program} {w : World} {A : Around} {E : Value → Shared → Prop} {s : Shared}
open PyProof.Rows in
set_option maxHeartbeats 3200000 in
theorem set_from_list {l : Addr} {items : Array Value} (ns : List Int) {Q : Value → Shared → Prop} (hh : A.handled = none) (hl : s.heap.IsList l items) (hit : IntsAre items.toList ns) (hb : ns.length + 1 < scanBound)
    (h : ∀ (h' : Heap) (tk c : Nat), SetR w h' s.heap.objs.size (fun j => decide (j ∈ ns)) c → c ≤ ns.length → (∀ b o, s.heap.get? b = some o → h'.get? b = some o) → Q (.ref s.heap.objs.size) { s with heap := h', toks := tk }) :
    wpAny (model P w) A (call (.type "set") [.ref l]) Q E s := by
  have hsz : items.size = ns.length := by have q := IntsAre.length hit; rw [Array.length_toList] at q; exact q
  obtain ⟨c, tl, hmro⟩ := F.called_set.mro
  have hmade := F.called_set.made
  have hsub := F.called_set.sub
  refine wpAny_call (codeAny_of_tree ?_)
  show wpAny _ _ (callAny (.type "set") _) _ _ _
  refine wpAny_pure ⟨Code.quiet_builtin _ (by decide +kernel), codeAny_builtin F.entry_type_call ?_⟩
  rw [Around.under_plain (weight_type_call_type "set" [.ref l] []) rfl]
  have h1 := F.called_set.notType
  have h2 := F.called_set.canCreate
  have hct := F.typeCall_set_1 (.ref l)
  repeat (any_goals (first | assumption | wp_step))
  refine codeAny_mono (code_set_led1 (.ref l) (E := E) (Q₁ := fun obj s₁ => obj = .ref s.heap.objs.size ∧ s₁ = { s with heap := s.heap.push ({ cls := .type "set", dict := none, data := .set #[] 0 (.fresh 0 0 (!w.params.followText "set-order")) } : Obj) }) ⟨rfl, rfl⟩) fun r s₁ hr => ?_
  rcases r with e | fl
  · exact hr
  cases fl with
  | ret obj =>
    obtain ⟨rfl, rfl⟩ := hr
    have hS : (s.heap.push ({ cls := .type "set", dict := none, data := .set #[] 0 (.fresh 0 0 (!w.params.followText "set-order")) } : Obj)).get? s.heap.objs.size = some ({ cls := .type "set", dict := none, data := .set #[] 0 (.fresh 0 0 (!w.params.followText "set-order")) } : Obj) := Heap.get?_push_size _ rfl
    have hT : Shared.TypeIs { s with heap := s.heap.push ({ cls := .type "set", dict := none, data := .set #[] 0 (.fresh 0 0 (!w.params.followText "set-order")) } : Obj) } (.ref s.heap.objs.size) "set" := ⟨_, hS, rfl⟩
    have hli := F.called_set.init.lookup
    have hbi := F.called_set.init.bind (.ref s.heap.objs.size)
    repeat (any_goals (first | assumption | wp_step))
    refine codeAny_mono (codeAny_call_builtin (R := wants (fun r s₂ => r = .none ∧ ∃ h' tk c, s₂ = { s with heap := h', toks := tk } ∧ SetR w h' s.heap.objs.size (fun j => decide (j ∈ ns)) c ∧ c ≤ ns.length ∧
        (∀ b o, s.heap.get? b = some o → h'.get? b = some o)) E) F.called_set.init.plain F.entry_set_init (check_set_init_1 hT ?_)) fun r₂ s₂ hr₂ => ?_
    · obtain ⟨⟨ocls, odict, odata, oslots⟩, hol, hcl, nl, hdl⟩ := hl
      simp only at hcl hdl
      subst hcl
      subst hdl
      have hol' : (s.heap.push ({ cls := .type "set", dict := none, data := .set #[] 0 (.fresh 0 0 (!w.params.followText "set-order")) } : Obj)).get? l = some { cls := .type "list", dict := odict, data := .seq items nl, slots := oslots } := Heap.get?_push_of_some _ hol
      have hsls := F.sub_list_set
      have hslf := F.sub_list_frozenset
      have hne : (Value.type "list" == Value.type "dict") = false := by decide
      have hl1 : (s.heap.push ({ cls := .type "set", dict := none, data := .set #[] 0 (.fresh 0 0 (!w.params.followText "set-order")) } : Obj)).IsList l items := ⟨_, hol', rfl, nl, rfl⟩
      unfold Builtin.«set.__init__» noKeywords Builtin.Frozenset.updateFrom
      generalize hPI : pyIter = PI
      wp_walk
      subst hPI
      refine wpAny_pyIter_list hl1 ?_
      refine wpAny_bind (wpAny_runValue ?_)
      have hlS : l < s.heap.objs.size := Heap.lt_size hol
      have hh3 : A.in1.in1.in1.handled = none := by simp [hh]
      have sz : (s.heap.push ({ cls := .type "set", dict := none, data := .set #[] 0 (.fresh 0 0 (!w.params.followText "set-order")) } : Obj)).objs.size = s.heap.objs.size + 1 := Heap.size_push ..
      have hneI : l ≠ (s.heap.push ({ cls := .type "set", dict := none, data := .set #[] 0 (.fresh 0 0 (!w.params.followText "set-order")) } : Obj)).objs.size := by rw [sz]; exact Nat.ne_of_lt (Nat.lt_succ_of_lt hlS)
      have hSf : s.heap.objs.size ∉ [(s.heap.push ({ cls := .type "set", dict := none, data := .set #[] 0 (.fresh 0 0 (!w.params.followText "set-order")) } : Obj)).objs.size, l] := by
        rw [sz]; simp only [List.mem_cons, List.not_mem_nil, or_false, not_or]
        exact ⟨Nat.ne_of_lt (Nat.lt_succ_self _), Nat.ne_of_gt hlS⟩
      refine set_update_ints ((Walks.list hh3 _ l hneI items).toS) s.heap.objs.size hSf ns hsz hb (fun i v hv => ?_) (items.size - 0) 0 _ (by omega) (Nat.zero_le _) ⟨⟨_, Heap.get?_push_size _ rfl, rfl, rfl⟩, hl1.push _⟩ ⟨0, Nat.le_refl 0, ?_⟩ fun s' c' hm hc' hS' => ?_
      · have hi : i < ns.length := by rw [← hsz]; exact (Array.getElem?_eq_some_iff.mp hv).1
        obtain ⟨t, e⟩ := IntsAre.int_at hit i v (by rw [Array.getElem?_toList]; exact hv)
        refine ⟨ns[i], t, List.getElem?_eq_getElem hi, ?_⟩
        rw [e, List.getD_eq_getElem?_getD, List.getElem?_eq_getElem hi] <;> rfl
      · exact setR_new_at (Heap.get?_push_of_some _ hS)
      · obtain ⟨h', g2, d', tk', os'⟩ := s'
        have eg : g2 = s.gens := hm.gens
        have ed : d' = s.drawn := hm.drawn
        have eo : os' = s.os := hm.os
        subst eg
        subst ed
        subst eo
        show wpAny _ _ _ _ _ _
        refine wpAny_pure ?_
        show wpAny _ _ (ret Value.none) _ _ _
        rw [hsz] at hc'
        refine wpAny_pure ⟨rfl, h', tk', c', rfl, hS', hc', fun b o e => ?_⟩
        have hb0 : b < s.heap.objs.size := Heap.lt_size e
        refine hm.heap b o ?_ (Heap.get?_push_of_some _ (Heap.get?_push_of_some _ e))
        rw [sz]
        simp only [List.mem_cons, List.not_mem_nil, or_false, not_or]
        exact ⟨Nat.ne_of_lt hb0, Nat.ne_of_lt (Nat.lt_succ_of_lt hb0)⟩
    · rcases r₂ with e | fl₂
      · exact hr₂
      cases fl₂ with
      | ret r =>
        obtain ⟨rfl, h', tk, c', rfl, hS', hc', hk'⟩ := hr₂
        repeat (any_goals (first | assumption | wp_step))
        exact h _ _ _ hS' hc' hk'
      | _ => exact hr₂.elim
  | _ => exact hr.elim
end
/-- set(xs), fewer than 64 whole numbers -/
def rSetL (K : PySem.W.Frag) (w : World) : List V → Hp → VK → Prop := fun vs H Q => ∃ (a : Addr) (ns : List Int), vs = [.ref a] ∧ SqL K H a (ns.map V.int) ∧ ns.length < 64 ∧ ∀ p c, H p = none → c ≤ ns.length → Q (.ref p) (upd H p (SetO w p (fun j => decide (j ∈ ns)) c))
theorem call_setL {X : Cx} (hc : X.calm = true) : CallR X (.type "set") (rSetL X.K X.w) := by
  intro pins s σ H vs us Q I r h
  obtain ⟨a, ns, rfl, hs, h64, q⟩ := h
  rw [Vals.ref1 r]
  obtain ⟨its, rv, p, hz⟩ := I.list hs
  refine set_from_list (P := X.prog) (w := X.w) ns (I.ok.hd hc) p.isList (by simpa using rv.ints) (by unfold scanBound; omega) fun h' tk c R hcn hk => ?_
  exact ⟨.ref s.heap.objs.size, upd H s.heap.objs.size (SetO X.w s.heap.objs.size (fun j => decide (j ∈ ns)) c), I.laid (t' := tk) hk (Nat.le_refl _) (setO_new R), rfl, q _ _ (I.hok.fresh (Nat.le_refl _)) hcn⟩
/-- sorted(set(xs)) -/
def qSortSet (m : Bool) (qa : DTA) : DTE := fun DW p M Q => qa DW p M fun ds M1 => match ds with
  | [x] => match res M1 x with
    | .lst es => match intsL es with
      | some ns => ns.length < 64 ∧ ∀ ns' : List Int, ns'.Pairwise (· < ·) → (∀ k, k ∈ ns' ↔ k ∈ ns) → newL m (ns'.map .int) M1 Q
      | none => False
    | _ => False
  | _ => False
theorem sim_laid {K : PySem.W.Frag} {G H : Hp} {p : Rho} {M : Mst} {s : L2.St} {a : Addr} {o : HO} (S : Sim K G H p M s) (hn : H a = none) : Sim K G (upd H a o) p M s := by
  refine ⟨fun b u q => ?_, S.env, S.len, fun b u q => ⟨(S.mem b u q).1, (S.mem b u q).2.mono (Same.refl G) ?_⟩⟩
  · rw [upd_ne (ne_of_none q (S.same.free hn))]; exact S.same b u q
  · obtain ⟨o', ho⟩ := (S.mem b u q).2.there
    exact upd_ne (ne_of_none ho hn)
theorem q_sortSet {X : Cx} {W : WX} {e : Expr} {t : TA} {qa : DTA} {p p2 pos2 pos : Pos} (m : Bool) (hc : X.calm = true) (hg : Gl X "sorted") (hm : X.mg "sorted" = none) (hg2 : Gl X "set") (hm2 : X.mg "set" = none) (ha : QA X W [e] t qa)
    (he : starEach [.Call (.Name "set" p2) [e] [] pos2] X.env = (false, eval (.Call (.Name "set" p2) [e] [] pos2) X.env) :: starEach [] X.env := by rfl) (he2 : starEach [e] X.env = (false, eval e X.env) :: starEach [] X.env := by rfl) :
    QE X W (.Call (.Name "sorted" p) [.Call (.Name "set" p2) [e] [] pos2] [] pos) (tCB (rSortedSet X.w) (tCons (tCB (rSetL X.K X.w) t) tNil)) (qSortSet m qa) :=
  ⟨pe_callB (cr_sortedSet hc) hg hm (by decide +kernel) (pa_cons (pe_callTy (call_setL hc) hg2 hm2 (by decide +kernel) ha.pe (he := he2)) pa_nil) (he := he),
    fun DW G H p M s Q Q' hw S h k => ha.rf DW G H p M s _ _ hw S h fun G1 H1 M1 ds vs e1 S1 r1 h1 => by
      split at h1
      · next x =>
        obtain ⟨v, rfl, r2⟩ := repL1 r1
        split at h1
        · next es ee =>
          obtain ⟨a, us, rfl, g1, g2, g3⟩ := as_lst S1 r2 ee
          split at h1
          · next ns en =>
            have e3 := intsL_eq en
            subst e3
            have eu := repL_ints g2
            subst eu
            refine ⟨a, ns, rfl, .inl (.inl g1), h1.1, fun q c hn hcn => ⟨q, _, c, rfl, upd_same, by omega, fun ns' q2 hw' hm' hl' hn2 => ?_⟩⟩
            refine newL_ok (sim_laid S1 hn) hn2 repL_intsR (sz1000 (by rw [List.length_map]; have := h1.1; omega)) (h1.2 ns' hw' fun k => by rw [hm' k]; simp) fun G' H' M' d w e2 => k G' H' M' d w (e1.trans e2)
          · exact h1.elim
        · exact h1.elim
      · exact h1.elim⟩
end DL

/-! DLi: a law's top, its end; the numbers that every law takes. -/
namespace DL
open PySem L2

/-- a def of the module: where it stands, what it is -/
structure FnAt (K : PySem.W.Frag) (mg : Str → Option Value) (x : Str) (st : Stmt) (ps : List Str) where
  f : Addr
  fd : FuncData
  g : mg x = some (.ref f)
  F : Fun K x x st f fd
  b : Binds K fd ps []
def spLaw : DSp := fun ds M Q _ => ∃ ns : List Int, ds = [.scr ns] ∧ ns.length ≤ 63 ∧ (∀ a, M a = none) ∧ ∀ M', Q (.bl true) M'
theorem walk {l : PySem.W.OpenLaw} {q : Program} {loose : List Str} {XP : (Str → Option Value) → Heap → Prop} {YP : World → Heap → Prop} {d : DefRec} {K : Params → PySem.W.Frag} {k : Nat} (hk : k ≤ 200) (hn : l.most = some 63) (hdf : d.params.defaults = [])
    (hY : ∀ (w : World) (h : Heap), YP w h → (K w.params).In h)
    (F : ∀ (w : World) (mg : Str → Option Value) (fa : Addr) (h : Heap), (K w.params).In h → h.Ns mainGlobals mg → mg d.name = some (.ref fa) →
      ∃ fd : FuncData, (∀ (s : Shared) (u : Value), BindsTo s fd ⟨[u], []⟩ [("_law_script", u)]) ∧ ∀ base : Heap, (K w.params).In base → base.Ns mainGlobals mg →
        FnOk l.prog w (K w.params) mg base (L2.CX l.prog w) k fa fd ["_law_script"] (toSp (K w.params) spLaw)) :
    PySem.W.WalkO q loose XP YP l.row.toRowW d [] (fun f vs => PySem.call f vs) :=
  L2.walk_of (n := 63) (k := k) (x := "_law_script") (CX := fun w => L2.CX l.prog w) (sp := fun w => toSp (K w.params) spLaw) hn (by decide) hdf
    ⟨rfl, by show 1 + 300 + 3 * k + 5 < 1000; omega, by show 4 + 16 * k + 200 < 9900; omega⟩ hY F
    (fun w H a ns hl _ hS => ⟨H, [.scr ns], fun _ => none, fun d _ => d = .bl true, fun _ _ => False, Same.refl _, RepL.cons ⟨a, rfl, hS, hl⟩ rfl, fun _ _ h => (by cases h), ⟨ns, rfl, hl, fun _ => rfl, fun _ => rfl⟩,
      fun G' H' v d M' _ _ r _ e => (by subst e; exact r), fun _ _ _ _ _ _ _ _ _ _ h => h.elim⟩) fun w H s e s' z => by
    obtain ⟨a, B, H', cls, d, _, _, _, _, _, _, _, h⟩ := z
    exact h
end DL

/-! DLj: readings opened by simp; the numbers that every law takes out of its script. -/
namespace DL
open PySem L2
abbrev retE (Q : DK) : DEnds := { nx := fun _ M => Q .non M, rt := Q }
section
variable {M : Mst} {Q : DK} {a : Addr} {ds : List D} {i : Int} {d : D}
theorem atI_0 {α : Type} {x : α} {xs : List α} : atI (x :: xs) 0 = some x := by
  unfold atI ixN; simp
theorem atI_1 {α : Type} {x y : α} {xs : List α} : atI (x :: y :: xs) 1 = some y := by
  unfold atI ixN
  have : (1 : Int) < ((x :: y :: xs).length : Int) := by simp; omega
  simp only [this]; rfl
theorem atI_n {α : Type} {xs : List α} {n : Nat} : atI xs (n : Int) = xs[n]? := by
  unfold atI ixN
  by_cases h : n < xs.length
  · simp [h]
  · have : ¬ ((n : Int) < (xs.length : Int)) := by omega
    simp [this, h]
theorem atI_some {α : Type} {xs : List α} {i : Int} (h0 : 0 ≤ i) (h1 : i < xs.length) : ∃ x, atI xs i = some x ∧ x ∈ xs := by
  obtain ⟨n, rfl⟩ : ∃ n : Nat, i = n := ⟨i.toNat, by omega⟩
  rw [atI_n]
  have : n < xs.length := by omega
  exact ⟨_, List.getElem?_eq_getElem this, List.getElem_mem this⟩
theorem ix_l (h : atI ds i = some d) : dIx (.lst ds) (.int i) M Q = Q d M := by simp [dIx, dgetD, h]
theorem ix_t (h : atI ds i = some d) : dIx (.tup ds) (.int i) M Q = Q d M := by simp [dIx, dgetD, h]
theorem ix_k (h : atI ds i = some d) : dIx (.ktp ds) (.int i) M Q = Q d M := by simp [dIx, dgetD, h]
theorem ix_s {ns : List Int} {n : Int} (h : atI ns i = some n) : dIx (.scr ns) (.int i) M Q = Q (.int n) M := by simp [dIx, dgetD, h]
theorem ix_r (hm : M a = some (.lst ds)) (h : atI ds i = some d) : dIx (.ref a) (.int i) M Q = Q d M := by simp [dIx, dgetD, res, hm, h]
theorem ix_d {kvs : List (Key × D)} {y : D} {k : Key} (hm : M a = some (.dK kvs)) (hk : keyD y = some k) (h : valD kvs k = some d) : dIx (.ref a) y M Q = Q d M := by simp [dIx, dgetD, hm, hk, h]
theorem in_d {kvs : List (Key × D)} {y : D} {k : Key} {neg : Bool} (hm : M a = some (.dK kvs)) (hk : keyD y = some k) : dIn neg y (.ref a) M Q = Q (.bl (xor neg (valD kvs k).isSome)) M := by simp [dIn, dgetD, hm, hk]
theorem set_l {R : Mst → Prop} {j : Nat} (hm : M a = some (.lst ds)) (h : ixN ds.length i = some j) : dSet (.ref a) (.int i) d M R = R (put M a (.lst (ds.set j d))) := by simp [dSet, hm, h]
theorem set_d {R : Mst → Prop} {kvs : List (Key × D)} {y : D} {k : Key} (hm : M a = some (.dK kvs)) (hk : keyD y = some k) : dSet (.ref a) y d M R = (kvs.length < 100000 ∧ R (put M a (.dK (putD kvs k d)))) := by simp [dSet, hm, hk]
theorem len_l : dLen [.lst ds] M Q = Q (.int ds.length) M := by simp [dLen]
theorem len_s {ns : List Int} : dLen [.scr ns] M Q = Q (.int ns.length) M := by simp [dLen]
theorem len_r (hm : M a = some (.lst ds)) : dLen [.ref a] M Q = Q (.int ds.length) M := by simp [dLen, res, hm]
@[simp] theorem dInt_i {C : Int → Int → Prop} {g : Int → Int → Int} {i j : Int} : dInt C g (.int i) (.int j) M Q = (C i j ∧ Q (.int (g i j)) M) := rfl
@[simp] theorem dInt0_i {g : Int → Int → Int} {i j : Int} : dInt0 g (.int i) (.int j) M Q = Q (.int (g i j)) M := rfl
@[simp] theorem dCmpI_i {g : Int → Int → Bool} {i j : Int} : dCmpI g (.int i) (.int j) M Q = Q (.bl (g i j)) M := rfl
@[simp] theorem dAdd_i {m : Bool} {i j : Int} : dAdd m (.int i) (.int j) M Q = Q (.int (i + j)) M := rfl
@[simp] theorem dAdd_l {m : Bool} {es fs : List D} : dAdd m (.lst es) (.lst fs) M Q = (es.length + fs.length ≤ 100000 ∧ newL m (es ++ fs) M Q) := rfl
@[simp] theorem dAbs_i {i : Int} : dAbs [.int i] M Q = Q (.int (if i < 0 then -i else i)) M := rfl
@[simp] theorem dMax2_i {i j : Int} : dMax2 [.int i, .int j] M Q = Q (.int (if j > i then j else i)) M := rfl
@[simp] theorem dMin2_i {i j : Int} : dMin2 [.int i, .int j] M Q = Q (.int (if j < i then j else i)) M := rfl
@[simp] theorem len_l' : dLen [.lst ds] M Q = Q (.int ds.length) M := by simp [dLen]
@[simp] theorem len_s' {ns : List Int} : dLen [.scr ns] M Q = Q (.int ns.length) M := by simp [dLen]
@[simp] theorem gSub_eq {qo qi : DTE} {d : D} {DW : DWt} {p : Rho} {R : Rho → Mst → Prop} : gSubD qo qi d DW p M R = qo DW p M fun o M1 => qi DW p M1 fun i M2 => dSet o i d M2 fun M3 => R p M3 := rfl
end

section
variable {X : Cx} {W : WX} {pos : Pos}
theorem qs_setN (i : Nat) {x : Str} {e : Expr} {te : TE} {qe : DTE} {pos' : Pos} (hN : X.N.Nodup) (he : QE X W e te qe) (hi : X.N[i]? = some x := by rfl) (hx : Loc X.env.scope x := by first | exact .inl rfl | exact .inr rfl)
    (hs : swapsWith e (some (.Name x pos')) pos.line X.env = pure false := by rfl) (hf : X.fn x = true ∨ X.env.scope.names.lookup x = some .local := by first | exact .inl rfl | exact .inr rfl) :
    QS X W (.Assign [.Name x pos'] e pos) (tAsg te (gName i)) (qAsg qe (gNameD i)) := qs_set (ps_set hN hi hx he.pe hs hf) he.rf
theorem qs_augN (i : Nat) {x : Str} {e : Expr} {te : TE} {qe : DTE} {pos' : Pos} (hN : X.N.Nodup) (he : QE X W e te qe) (hi : X.N[i]? = some x := by rfl) (hx : Loc X.env.scope x := by first | exact .inl rfl | exact .inr rfl)
    (hf : X.fn x = true ∨ X.env.scope.names.lookup x = some .local := by first | exact .inl rfl | exact .inr rfl) : QS X W (.AugAssign (.Name x pos') .Add e pos) (tAug i te rAugX) (qAug i qe dAug) :=
  qs_augX (ps_aug hN hi hx he.pe ip_any hf) he.rf ref_aug
theorem qs_parN (i j : Nat) {x y : Str} {a b : Expr} {ta : TA} {qa : DTA} {px py pt : Pos} {kt k2 pt2} (hc : X.calm = true) (hN : X.N.Nodup) (ha : QA X W [a, b] ta qa) (hi : X.N[i]? = some x := by rfl) (hj : X.N[j]? = some y := by rfl) (hij : i ≠ j := by decide)
    (hx : X.env.scope.names.lookup x = some .local := by rfl) (hy : X.env.scope.names.lookup y = some .local := by rfl)
    (hw : swappedStores [.Tuple [.Name x px, .Name y py] kt pt] (.Tuple [a, b] k2 pt2) X.env = pure (some [x, y]) := by rfl)
    (hs : swapsWithSole [.Tuple [.Name x px, .Name y py] kt pt] (.Tuple [a, b] k2 pt2) pos.line X.env = pure false := by rfl) :
    QS X W (.Assign [.Tuple [.Name x px, .Name y py] kt pt] (.Tuple [a, b] k2 pt2) pos) (tPar i j ta) (qPar i j qa) := qs_par (ps_par hc hN hi hj hij hx hy ha.pe hw hs) ha.rf
theorem qs_par3N (i j l : Nat) {x y z : Str} {a b c : Expr} {ta : TA} {qa : DTA} {px py pz pt : Pos} {kt k2 pt2} (hc : X.calm = true) (hN : X.N.Nodup) (ha : QA X W [a, b, c] ta qa) (hi : X.N[i]? = some x := by rfl) (hj : X.N[j]? = some y := by rfl) (hl : X.N[l]? = some z := by rfl)
    (hij : i ≠ j := by decide) (hil : i ≠ l := by decide) (hjl : j ≠ l := by decide)
    (hx : X.env.scope.names.lookup x = some .local := by rfl) (hy : X.env.scope.names.lookup y = some .local := by rfl) (hz : X.env.scope.names.lookup z = some .local := by rfl)
    (hw : swappedStores [.Tuple [.Name x px, .Name y py, .Name z pz] kt pt] (.Tuple [a, b, c] k2 pt2) X.env = pure (some [x, y, z]) := by rfl)
    (hs : swapsWithSole [.Tuple [.Name x px, .Name y py, .Name z pz] kt pt] (.Tuple [a, b, c] k2 pt2) pos.line X.env = pure false := by rfl) :
    QS X W (.Assign [.Tuple [.Name x px, .Name y py, .Name z pz] kt pt] (.Tuple [a, b, c] k2 pt2) pos) (tPar3 i j l ta) (qPar3 i j l qa) := qs_par3 (ps_par3 hc hN hi hj hl hij hil hjl hx hy hz ha.pe hw hs) ha.rf
theorem qg_nm (i : Nat) {x : Str} {ix : List Nat} (hN : X.N.Nodup) (hi : X.N[i]? = some x := by rfl) (hx : Loc X.env.scope x := by first | exact .inl rfl | exact .inr rfl)
    (hf : X.fn x = true ∨ X.env.scope.names.lookup x = some .local := by first | exact .inl rfl | exact .inr rfl) (hm : i ∈ ix := by decide) : QGi X W ix (.Name x pos) (gName i) (gNameD i) := qg_name (pg_name hN hi hx hf) hm
end
/-! ### what is no longer asked of the store -/
def Sub (M M' : Mst) : Prop := ∀ a o, M a = some o → M' a = some o
theorem Sub.refl (M : Mst) : Sub M M := fun _ _ h => h
theorem Sub.trans {M M1 M2 : Mst} (h : Sub M M1) (g : Sub M1 M2) : Sub M M2 := fun a o e => g a o (h a o e)
theorem Sub.put {M M' : Mst} {a : Addr} {o : MO} (h : Sub M M') (hn : M a = none) : Sub M (put M' a o) := fun b u e => by
  rw [put_ne (fun z => by rw [z, hn] at e; cases e)]; exact h b u e
def upSp (p : DSp) : DSp := fun ds M Q E => ∃ Q0 E0, p ds M Q0 E0 ∧ (∀ d M' M'', Sub M'' M' → Q0 d M'' → Q d M') ∧ ∀ x M' M'', Sub M'' M' → E0 x M'' → E x M'
theorem imp_up {K : PySem.W.Frag} {p : DSp} {vs : List V} {H : Hp} {Q : VK} {E : XK} (h : toSp K p vs H Q E) : toSp K (upSp p) vs H Q E := by
  obtain ⟨G, ds, M, Qd, Ed, e, r, hm, hp, kq, ke⟩ := h
  have ok : ∀ {G' H' M' M''}, Sub M'' M' → MemOk K G' H' M' → MemOk K G' H' M'' := fun hs hm a o e => hm a o (hs a o e)
  exact ⟨G, ds, M, fun d M' => ∃ M'', Sub M'' M' ∧ Qd d M'', fun x M' => ∃ M'', Sub M'' M' ∧ Ed x M'', e, r, hm, ⟨Qd, Ed, hp, fun d M' M'' hs q => ⟨M'', hs, q⟩, fun x M' M'' hs q => ⟨M'', hs, q⟩⟩,
    fun G' H' v d M' e1 e2 r1 hm1 ⟨M'', hs, q⟩ => kq G' H' v d M'' e1 e2 r1 (ok hs hm1) q, fun G' H' x cls dx M' e1 e2 r1 hm1 ⟨M'', hs, q⟩ => ke G' H' x cls dx M'' e1 e2 r1 (ok hs hm1) q⟩
/-! ### comprehensions whose inner parts hang on the block -/
def canE (K : PySem.W.Frag) (W : WX) (q : DTE) : TE := fun s H Q' => ∃ DW G p M Q, WLink K G DW W ∧ Sim K G H p M s ∧ q DW p M Q ∧ ∀ G' H' M' d v, Same G G' → Sim K G' H' p M' s → Rep K G' d v → Q d M' → Q' v H'
def canT (K : PySem.W.Frag) (W : WX) (q : DTT) : TT := fun s H Q' => ∃ DW G p M Q, WLink K G DW W ∧ Sim K G H p M s ∧ q DW p M Q ∧ ∀ G' H' M' b, Same G G' → Sim K G' H' p M' s → Q b M' → Q' b H'
def canG (K : PySem.W.Frag) (W : WX) (ix : List Nat) (q : DTG) : TG := fun v s H Q' => ∃ DW G p M d Q, WLink K G DW W ∧ Sim K G H p M s ∧ Rep K G d v ∧ q d DW p M Q ∧ ∀ G' H' p' M' s', Same G G' → Sim K G' H' p' M' s' → Only ix s s' → Q p' M' → Q' s' H'
section
variable {X : Cx} {W : WX} {elt tg iter : Expr} {ifs : List Expr} {scope : Scope} {own : List (Str × Nat)} {pos : Pos} {wi : TI} {qi : DTI} {qg : DTG} {qt : DTT} {qe : DTE}
theorem QE.can {e : Expr} (h : ∃ t, QE X W e t qe) : QE X W e (canE X.K W qe) qe := by
  obtain ⟨t, h⟩ := h
  exact ⟨⟨fun pins s σ H Q I ⟨DW, G, p, M, Qd, hw, S, hq, k⟩ => h.pe.run pins s σ H Q I (h.rf DW G H p M σ Qd Q hw S hq k)⟩, fun DW G H p M s Q Q' hw S hq k => ⟨DW, G, p, M, Q, hw, S, hq, k⟩⟩
theorem QTs.can {es : List Expr} (h : ∃ t, QTs X W es t qt) : QTs X W es (canT X.K W qt) qt := by
  obtain ⟨t, h⟩ := h
  exact ⟨⟨fun pins s σ H Q I ⟨DW, G, p, M, Qd, hw, S, hq, k⟩ => h.pe.run pins s σ H Q I (h.rf DW G H p M σ Qd Q hw S hq k)⟩, fun DW G H p M s Q Q' hw S hq k => ⟨DW, G, p, M, Q, hw, S, hq, k⟩⟩
theorem QGi.can {ix : List Nat} {e : Expr} (h : ∃ t, QGi X W ix e t qg) : QGi X W ix e (canG X.K W ix qg) qg := by
  obtain ⟨t, h⟩ := h
  exact ⟨⟨fun pins s σ H v u Q I r ⟨DW, G, p, M, d, Qd, hw, S, rd, hq, k⟩ => h.pe.run pins s σ H v u Q I r (h.rf DW G H p M σ d v Qd Q hw S rd hq k)⟩, fun DW G H p M s d v Q Q' hw S rd hq k => ⟨DW, G, p, M, d, Q, hw, S, rd, hq, k⟩⟩
theorem q_lcX (m : Bool) (hc : X.calm = true) (hN : X.N.Nodup) (hi : QI X W tg iter wi qi) (ok : BlkOk X.N X.env.scope scope own)
    (hg : ∀ (s : Shared) (H : Hp) (C : Addr) (cl : List (Str × Addr)) (fp : List Addr), ∃ t, QGi (X.blk s H scope (compEnvC scope cl C X.env) fp) W0 (own.map (·.2)) tg t qg)
    (ht : ∀ (s : Shared) (H : Hp) (C : Addr) (cl : List (Str × Addr)) (fp : List Addr), ∃ t, QTs (X.blk s H scope (compEnvC scope cl C X.env) fp) W0 ifs t qt)
    (he : ∀ (s : Shared) (H : Hp) (C : Addr) (cl : List (Str × Addr)) (fp : List Addr), ∃ t, QE (X.blk s H scope (compEnvC scope cl C X.env) fp) W0 elt t qe) (hs : ∀ x, foldedSetIterable iter X.env x = pure x := by intro _; rfl) :
    QE X W (.ListComp elt [⟨tg, iter, ifs, 0⟩] scope pos) (tLc wi (canG X.K W0 (own.map (·.2)) qg) (canT X.K W0 qt) (canE X.K W0 qe) (own.map (·.2))) (qLc m qi qg qt qe (own.map (·.2))) :=
  q_lc m hc hN hi ok (fun s H C cl fp => QGi.can (hg s H C cl fp)) (fun s H C cl fp => QTs.can (ht s H C cl fp)) (fun s H C cl fp => QE.can (he s H C cl fp)) hs
theorem qs_setLcX (m : Bool) (i : Nat) {y : Str} {py spos : Pos} (hc : X.calm = true) (hN : X.N.Nodup) (hi : QI X W tg iter wi qi) (ok : BlkOk X.N X.env.scope scope own)
    (hg : ∀ (s : Shared) (H : Hp) (C : Addr) (cl : List (Str × Addr)) (fp : List Addr), ∃ t, QGi (X.blk s H scope (compEnvC scope cl C X.env) fp) W0 (own.map (·.2)) tg t qg)
    (ht : ∀ (s : Shared) (H : Hp) (C : Addr) (cl : List (Str × Addr)) (fp : List Addr), ∃ t, QTs (X.blk s H scope (compEnvC scope cl C X.env) fp) W0 ifs t qt)
    (he : ∀ (s : Shared) (H : Hp) (C : Addr) (cl : List (Str × Addr)) (fp : List Addr), ∃ t, QE (X.blk s H scope (compEnvC scope cl C X.env) fp) W0 elt t qe)
    (hy : X.N[i]? = some y := by rfl) (hyl : X.env.scope.names.lookup y = some .local := by rfl)
    (hsw : swapsWith (.ListComp elt [⟨tg, iter, ifs, 0⟩] scope pos) (some (.Name y py)) spos.line X.env = pure true := by exact sw_true rfl rfl rfl (by decide +kernel)) (hs : ∀ x, foldedSetIterable iter X.env x = pure x := by intro _; rfl) :
    QS X W (.Assign [.Name y py] (.ListComp elt [⟨tg, iter, ifs, 0⟩] scope pos) spos) (tAsg (tLc wi (canG X.K W0 (own.map (·.2)) qg) (canT X.K W0 qt) (canE X.K W0 qe) (own.map (·.2))) (gName i)) (qAsg (qLc m qi qg qt qe (own.map (·.2))) (gNameD i)) :=
  qs_setLc m hc hN hy hyl hsw hi ok (fun s H C cl fp => QGi.can (hg s H C cl fp)) (fun s H C cl fp => QTs.can (ht s H C cl fp)) (fun s H C cl fp => QE.can (he s H C cl fp)) hs
end
/-! ### the bag -/
def spTakeL : DSp := fun ds M Q _ => ∃ (b : Addr) (g m n : Int), ds = [.ref b, .int n] ∧ M b = some (.lst [.int g, .int m]) ∧ 0 ≤ g ∧ 0 ≤ m ∧ m < 2147483648 ∧ 0 < n ∧ n < 1073741824 ∧
  ∀ g' m' r : Int, 0 ≤ g' → 0 ≤ m' → m' < 2147483648 → 0 ≤ r → r < n → Q (.int r) (put M b (.lst [.int g', .int m']))
def spTake : DSp := fun ds M Q _ => ∃ (b : Addr) (n : Int), ds = [.ref b, .int n] ∧ M b = some .bag ∧ 0 < n ∧ n < 1073741824 ∧ ∀ r : Int, 0 ≤ r → r < n → Q (.int r) M
def spBagL : DSp := fun ds M Q _ => ∃ (ns : List Int) (i : Int), ds = [.scr ns, .int i] ∧ 0 ≤ i ∧ i < 10000 ∧ ∀ (p : Addr) (g m : Int), M p = none → 0 ≤ g → 0 ≤ m → m < 2147483648 → Q (.ref p) (put M p (.lst [.int g, .int m]))
def spBag : DSp := fun ds M Q _ => ∃ (ns : List Int) (i : Int), ds = [.scr ns, .int i] ∧ 0 ≤ i ∧ i < 10000 ∧ ∀ p : Addr, M p = none → Q (.ref p) (put M p .bag)
theorem cpow_small {i : Int} {j : Nat} (h0 : 0 ≤ i) (h1 : i < 18446744073709551616) (hj : j ≤ 1000000) : CPow i (j : Int) := by
  refine ⟨by omega, by omega, ?_⟩
  have e : (2 : Nat) ^ 64 = 18446744073709551616 := by decide
  omega
theorem mem_bag {K : PySem.W.Frag} {G H : Hp} {M : Mst} {b : Addr} {g m : Int} (hm : MemOk K G H M) (h : M b = some (.lst [.int g, .int m])) (h0 : 0 ≤ g) (h1 : 0 ≤ m) (h2 : m < 2147483648) : MemOk K G H (put M b .bag) := fun a o e => by
  by_cases z : a = b
  · subst z
    rw [put_same] at e; cases e
    obtain ⟨gn, vs, q1, ⟨v, r, rfl, q2, ⟨u, r2, rfl, q3, q4⟩⟩, _⟩ := hm _ _ h
    cases q2; cases q3; cases q4
    exact ⟨gn, g, m, q1, h0, h1, h2⟩
  · rw [put_ne z] at e; exact hm a o e
theorem bag_mem {K : PySem.W.Frag} {G H : Hp} {M : Mst} {b : Addr} (hm : MemOk K G H M) (h : M b = some .bag) : ∃ g m : Int, 0 ≤ g ∧ 0 ≤ m ∧ m < 2147483648 ∧ MemOk K G H (put M b (.lst [.int g, .int m])) := by
  obtain ⟨gn, g, m, q1, q2, q3, q4⟩ := hm _ _ h
  refine ⟨g, m, q2, q3, q4, fun a o e => ?_⟩
  by_cases z : a = b
  · subst z
    rw [put_same] at e; cases e
    exact ⟨gn, _, q1, ⟨_, _, rfl, rfl, _, _, rfl, rfl, rfl⟩, sz1000 (by simp)⟩
  · rw [put_ne z] at e; exact hm a o e
theorem imp_take {K : PySem.W.Frag} {vs : List V} {H : Hp} {Q : VK} {E : XK} (h : toSp K spTake vs H Q E) : toSp K spTakeL vs H Q E := by
  obtain ⟨G, ds, M, Qd, Ed, e, r, hm, ⟨b, n, rfl, hb, h0, h1, k⟩, kq, ke⟩ := h
  obtain ⟨g, m, g1, g2, g3, hm'⟩ := bag_mem hm hb
  refine ⟨G, _, _, fun d M' => ∃ g' m' : Int, M' b = some (.lst [.int g', .int m']) ∧ 0 ≤ g' ∧ 0 ≤ m' ∧ m' < 2147483648 ∧ Qd d (put M' b .bag), Ed, e, r, hm', ⟨b, g, m, n, rfl, put_same, g1, g2, g3, h0, h1, fun g' m' r a1 a2 a3 a4 a5 => ?_⟩, fun G' H' v d M' e1 e2 r1 hm1 q => ?_, fun G' H' x cls dx M' e1 e2 r1 hm1 q => ke G' H' x cls dx M' e1 e2 r1 hm1 q⟩
  · refine ⟨g', m', put_same, a1, a2, a3, ?_⟩
    rw [put_put, put_put, put_id hb]
    exact k r a4 a5
  · obtain ⟨g', m', q0, q1, q2, q3, q4⟩ := q
    exact kq G' H' v d _ e1 e2 r1 (mem_bag hm1 q0 q1 q2 q3) q4
theorem imp_bag {K : PySem.W.Frag} {vs : List V} {H : Hp} {Q : VK} {E : XK} (h : toSp K spBag vs H Q E) : toSp K spBagL vs H Q E := by
  obtain ⟨G, ds, M, Qd, Ed, e, r, hm, ⟨ns, i, rfl, h0, h1, k⟩, kq, ke⟩ := h
  refine ⟨G, _, _, fun d M' => ∃ (b : Addr) (g' m' : Int), d = .ref b ∧ M' b = some (.lst [.int g', .int m']) ∧ 0 ≤ g' ∧ 0 ≤ m' ∧ m' < 2147483648 ∧ Qd d (put M' b .bag), Ed, e, r, hm, ⟨ns, i, rfl, h0, h1, fun p g m hp a1 a2 a3 => ⟨p, g, m, rfl, put_same, a1, a2, a3, ?_⟩⟩, fun G' H' v d M' e1 e2 r1 hm1 q => ?_, fun G' H' x cls dx M' e1 e2 r1 hm1 q => ke G' H' x cls dx M' e1 e2 r1 hm1 q⟩
  · rw [put_put]
    exact k p hp
  · obtain ⟨b, g', m', rfl, q0, q1, q2, q3, q4⟩ := q
    exact kq G' H' v _ _ e1 e2 r1 (mem_bag hm1 q0 q1 q2 q3) q4
end DL

/-! DLk: the numbers that every law takes out of its script. -/
namespace DL
open PySem L2
def qTakeR : DTS :=
  (qSeq (qIfS (qTB (qOp (dCmpI fun i j => decide (j < i)) (qOp dIx (qVar 0) (qC (.int 0))) (qC (.int 0))))
  (qSeq (qAsg (qOp (dInt (fun _ j => 0 < j) fun i j => i % j) (qOp dIx (qVar 0) (qC (.int 0))) (qVar 1)) (gNameD 2))
  (qSeq (qAsg (qOp (dInt CDiv fun i j => i / j) (qOp dIx (qVar 0) (qC (.int 0))) (qVar 1)) (gSubD (qVar 0) (qC (.int 0))))
  (qRet (qVar 2))))
  qNext)
  (qSeq (qAsg (qOp (dInt (fun _ j => 0 < j) fun i j => i % j) (qOp (dAdd false) (qOp (dInt CMul fun i j => i * j) (qOp dIx (qVar 0) (qC (.int 1))) (qC (.int 48271))) (qC (.int 11))) (qC (.int 2147483647))) (gSubD (qVar 0) (qC (.int 1))))
  (qRet (qOp (dInt (fun _ j => 0 < j) fun i j => i % j) (qOp (dInt (fun _ j => 0 < j) fun i j => i % j) (qOp (dInt CPow fun i j => i ^ j.toNat) (qOp (dInt CDiv fun i j => i / j) (qOp dIx (qVar 0) (qC (.int 1))) (qC (.int 8))) (qC (.int 3))) (qC (.int 2147483629))) (qVar 1)))))
def qBagR : DTS :=
  (qSeq (qAsg (qC (.int 0)) (gNameD 2))
  (qSeq (qIfS (qTB (qOp (dCmpI fun i j => decide (j < i)) (qCB dLen (qCons (qVar 0) qNil)) (qC (.int 0))))
  (qAsg (qOp dIx (qVar 0) (qOp (dInt (fun _ j => 0 < j) fun i j => i % j) (qVar 1) (qCB dLen (qCons (qVar 0) qNil)))) (gNameD 2))
  qNext)
  (qSeq (qAsg (qC (.int 0)) (gNameD 3))
  (qSeq (qIfS (qAnd (qTB (qOp (dCmpI fun i j => decide (j ≤ i)) (qCB dAbs (qCons (qVar 2) qNil)) (qOp (dInt CPow fun i j => i ^ j.toNat) (qC (.int 10)) (qC (.int 18))))) (qTB (qOp (dCmpI fun i j => decide (i < j)) (qVar 1) (qCB dLen (qCons (qVar 0) qNil)))))
  (qAsg (qCB dAbs (qCons (qVar 2) qNil)) (gNameD 3))
  qNext)
  (qSeq (qAsg (qTup (qCons (qC (.int 2147483629)) (qCons (qC (.int 2147483587)) (qCons (qC (.int 2147483579)) (qCons (qC (.int 2147483563)) (qCons (qC (.int 2147483549)) (qCons (qC (.int 2147483543)) (qCons (qC (.int 2147483497)) (qCons (qC (.int 2147483489)) qNil))))))))) (gNameD 4))
  (qRet (qLst true (qCons (qVar 3) (qCons (qOp (dInt (fun _ j => 0 < j) fun i j => i % j) (qOp (dInt CPow fun i j => i ^ j.toNat) (qOp (dAdd false) (qOp (dAdd false) (qOp (dInt (fun _ j => 0 < j) fun i j => i % j) (qVar 2) (qC (.int 2147483647))) (qOp (dInt CMul fun i j => i * j) (qC (.int 104729)) (qVar 1))) (qC (.int 7))) (qC (.int 5))) (qOp dIx (qVar 4) (qOp (dInt (fun _ j => 0 < j) fun i j => i % j) (qVar 1) (qC (.int 8))))) qNil)))))))))
theorem take_ok (ds : List D) (M : Mst) (Q : DK) (Ed : DX → Mst → Prop) (h : upSp spTakeL ds M Q Ed) : qTakeR (fun x _ M => Ed x M) (retE Q) (startD ["_law_bag_here", "_law_many", "_law_digit"] ds) M := by
  obtain ⟨Q0, E0, ⟨b, g, m, n, rfl, hb, g0, m0, m1, n0, n1, k0⟩, kq, _⟩ := h
  have k : ∀ g' m' r : Int, 0 ≤ g' → 0 ≤ m' → m' < 2147483648 → 0 ≤ r → r < n → Q (.int r) (put M b (.lst [.int g', .int m'])) := fun g' m' r a1 a2 a3 a4 a5 => kq _ _ _ (Sub.refl _) (k0 g' m' r a1 a2 a3 a4 a5)
  have ix0 : ∀ (g m : Int) (M : Mst) (Q : DK), M b = some (.lst [.int g, .int m]) → dIx (.ref b) (.int 0) M Q = Q (.int g) M := fun g m M Q h => ix_r h atI_0
  have ix1 : ∀ (g m : Int) (M : Mst) (Q : DK), M b = some (.lst [.int g, .int m]) → dIx (.ref b) (.int 1) M Q = Q (.int m) M := fun g m M Q h => ix_r h atI_1
  have st0 : ∀ (g m : Int) (M : Mst) (v : D) (R : Mst → Prop), M b = some (.lst [.int g, .int m]) → dSet (.ref b) (.int 0) v M R = R (put M b (.lst [v, .int m])) := fun g m M v R h => set_l h (j := 0) rfl
  have st1 : ∀ (g m : Int) (M : Mst) (v : D) (R : Mst → Prop), M b = some (.lst [.int g, .int m]) → dSet (.ref b) (.int 1) v M R = R (put M b (.lst [.int g, v])) := fun g m M v R h => set_l h (j := 1) rfl
  simp only [qTakeR, startD, qSeq, qIfS, qTB, qOp, qVar, qC, qAsg, gNameD, gSub_eq, qRet, qNext, retE]
  simp
  rw [ix0 g m M _ hb]
  simp [dCmpI]
  split
  · rw [ix0 g m M _ hb]
    simp [dInt, n0]
    rw [ix0 g m M _ hb]
    simp [CDiv, n0, n1]
    rw [st0 g m M _ _ hb]
    exact k _ _ _ (Int.ediv_nonneg g0 (by omega)) m0 m1 (Int.emod_nonneg _ (by omega)) (Int.emod_lt_of_pos _ n0)
  · have c1 : CMul m 48271 := .inr ⟨by decide, by decide⟩
    rw [ix1 g m M _ hb]
    simp [dInt, dAdd, c1]
    rw [st1 g m M _ _ hb]
    have z0 := Int.emod_nonneg (m * 48271 + 11) (show (2147483647 : Int) ≠ 0 by decide)
    have z1 := Int.emod_lt_of_pos (m * 48271 + 11) (show (0 : Int) < 2147483647 by decide)
    generalize (m * 48271 + 11) % 2147483647 = m2 at z0 z1 ⊢
    rw [ix1 g m2 _ _ put_same]
    have c2 : CDiv m2 8 := ⟨by decide, by decide⟩
    have c3 : CPow (m2 / 8) 3 := cpow_small (j := 3) (by omega) (by omega) (by decide)
    simp [c2, c3, n0]
    exact k _ _ _ g0 z0 (by omega) (Int.emod_nonneg _ (by omega)) (Int.emod_lt_of_pos _ n0)
theorem natMod {i : Int} {n : Nat} (h0 : 0 ≤ i) (hn : 0 < n) : 0 ≤ i % (n : Int) ∧ i % (n : Int) < n := ⟨Int.emod_nonneg _ (by omega), Int.emod_lt_of_pos _ (by omega)⟩
def bagTail : DTS :=
  (qSeq (qAsg (qTup (qCons (qC (.int 2147483629)) (qCons (qC (.int 2147483587)) (qCons (qC (.int 2147483579)) (qCons (qC (.int 2147483563)) (qCons (qC (.int 2147483549)) (qCons (qC (.int 2147483543)) (qCons (qC (.int 2147483497)) (qCons (qC (.int 2147483489)) qNil))))))))) (gNameD 4))
  (qRet (qLst true (qCons (qVar 3) (qCons (qOp (dInt (fun _ j => 0 < j) fun i j => i % j) (qOp (dInt CPow fun i j => i ^ j.toNat) (qOp (dAdd false) (qOp (dAdd false) (qOp (dInt (fun _ j => 0 < j) fun i j => i % j) (qVar 2) (qC (.int 2147483647))) (qOp (dInt CMul fun i j => i * j) (qC (.int 104729)) (qVar 1))) (qC (.int 7))) (qC (.int 5))) (qOp dIx (qVar 4) (qOp (dInt (fun _ j => 0 < j) fun i j => i % j) (qVar 1) (qC (.int 8))))) qNil)))))
theorem bag_end (c gr i : Int) (ns : List Int) (M : Mst) (Q : DK) (Ed : DX → Mst → Prop) (i0 : 0 ≤ i) (i1 : i < 10000) (g0 : 0 ≤ gr) (k : ∀ (p : Addr) (g m : Int), M p = none → 0 ≤ g → 0 ≤ m → m < 2147483648 → Q (.ref p) (put M p (.lst [.int g, .int m]))) (x5 : Option D) :
    bagTail (fun x _ M => Ed x M) (retE Q) [some (.scr ns), some (.int i), some (.int c), some (.int gr), x5] M := by
  simp only [bagTail, qSeq, qIfS, qTB, qOp, qVar, qC, qAsg, gNameD, qRet, qTup, qLst, qCons, qNil, retE, List.set_cons_zero, List.set_cons_succ, List.getElem?_cons_zero, List.getElem?_cons_succ, dInt_i, dAdd_i, newL_t]
  have z0 := Int.emod_nonneg c (show (2147483647 : Int) ≠ 0 by decide)
  have z1 := Int.emod_lt_of_pos c (show (0 : Int) < 2147483647 by decide)
  generalize c % 2147483647 = c2 at z0 z1 ⊢
  refine ⟨by simp, by decide, .inl ⟨by decide, by decide⟩, cpow_small (j := 5) (by omega) (by omega) (by decide), by decide, ?_⟩
  generalize (c2 + 104729 * i + 7) ^ Int.toNat 5 = big
  obtain ⟨x, hx, hm⟩ := atI_some (xs := [D.int 2147483629, .int 2147483587, .int 2147483579, .int 2147483563, .int 2147483549, .int 2147483543, .int 2147483497, .int 2147483489]) (i := i % 8) (Int.emod_nonneg _ (by decide)) (Int.emod_lt_of_pos _ (by decide))
  rw [ix_t hx]
  have : ∃ q : Int, x = .int q ∧ 0 < q ∧ q < 2147483648 := by
    simp only [List.mem_cons, List.not_mem_nil, or_false] at hm
    rcases hm with h | h | h | h | h | h | h | h <;> exact ⟨_, h, by decide, by decide⟩
  obtain ⟨q, rfl, q0, q1⟩ := this
  refine ⟨q0, by simp, fun p hp => k p _ _ hp g0 (Int.emod_nonneg _ (by omega)) ?_⟩
  have := Int.emod_lt_of_pos big q0
  show big % q < _
  omega
def bagMid (a b : Int) : DTS := (qSeq (qAsg (qC (.int 0)) (gNameD 3))
  (qSeq (qIfS (qAnd (qTB (qOp (dCmpI fun i j => decide (j ≤ i)) (qCB dAbs (qCons (qVar 2) qNil)) (qOp (dInt CPow fun i j => i ^ j.toNat) (qC (.int a)) (qC (.int b))))) (qTB (qOp (dCmpI fun i j => decide (i < j)) (qVar 1) (qCB dLen (qCons (qVar 0) qNil)))))
  (qAsg (qCB dAbs (qCons (qVar 2) qNil)) (gNameD 3))
  qNext) bagTail))
theorem set3_ (a b c d : D) (x : Int) : [some a, some b, some (.int x), some c, none].set 3 (some d) = [some a, some b, some (.int x), some d, none] := rfl
theorem abs_set (DW : DWt) (DE : DEnds) (a b c d : D) (x : Int) (M : Mst) : qAsg (qCB dAbs (qCons (qVar 2) qNil)) (gNameD 3) DW DE [some a, some b, some (.int x), some c, none] M = DE.nx [some a, some b, some (.int x), some (.int (if x < 0 then -x else x)), none] M := by
  unfold qAsg qCB qCons qNil gNameD qVar
  simp only [List.getElem?_cons_zero, List.getElem?_cons_succ]
  rw [dAbs_i, set3_]
theorem bag_mid (ns : List Int) (i : Int) (M : Mst) (Q : DK) (Ed : DX → Mst → Prop) (i0 : 0 ≤ i) (i1 : i < 10000) (k : ∀ (p : Addr) (g m : Int), M p = none → 0 ≤ g → 0 ≤ m → m < 2147483648 → Q (.ref p) (put M p (.lst [.int g, .int m])))
    (a b : Int) (hab : CPow a b) (c : Int) : bagMid a b (fun x _ M => Ed x M) (retE Q) [some (.scr ns), some (.int i), some (.int c), none, none] M := by
  simp only [bagMid, qSeq, qAsg, qC, gNameD, List.set_cons_zero, List.set_cons_succ]
  simp only [qIfS, qAnd, qTB, qOp]
  simp only [qCB, qCons, qVar, List.getElem?_cons_zero, List.getElem?_cons_succ]
  simp only [qNil, qC, dAbs_i, dInt_i, dCmpI_i, len_s', qNext]
  have ab : 0 ≤ if c < 0 then -c else c := by split <;> omega
  refine ⟨hab, ?_⟩
  have no : bagTail (fun x _ M => Ed x M) (retE Q) [some (.scr ns), some (.int i), some (.int c), some (.int 0), none] M := bag_end c 0 i ns M Q Ed i0 i1 (by omega) k none
  have yes : ∀ g : Int, 0 ≤ g → bagTail (fun x _ M => Ed x M) (retE Q) [some (.scr ns), some (.int i), some (.int c), some (.int g), none] M := fun g hg => bag_end c g i ns M Q Ed i0 i1 hg k none
  generalize bagTail = tail at no yes ⊢
  have y2 := yes _ ab
  by_cases h1 : decide (a ^ b.toNat ≤ if c < 0 then -c else c) = true
  · rw [if_pos h1]
    by_cases h2 : decide (i < (ns.length : Int)) = true
    · rw [if_pos h2]
      rw [abs_set _ _ _ _ _ .non]; exact y2
    · rw [if_neg h2]; exact no
  · rw [if_neg h1, if_neg Bool.false_ne_true]; exact no
theorem bag_ok (ds : List D) (M : Mst) (Q : DK) (Ed : DX → Mst → Prop) (h : upSp spBagL ds M Q Ed) : qBagR (fun x _ M => Ed x M) (retE Q) (startD ["_law_script", "_law_at", "_law_cell", "_law_great", "_law_primes"] ds) M := by
  obtain ⟨Q0, E0, ⟨ns, i, rfl, i0, i1, k0⟩, kq, _⟩ := h
  have k : ∀ (p : Addr) (g m : Int), M p = none → 0 ≤ g → 0 ≤ m → m < 2147483648 → Q (.ref p) (put M p (.lst [.int g, .int m])) := fun p g m a1 a2 a3 a4 => kq _ _ _ (Sub.refl _) (k0 p g m a1 a2 a3 a4)
  have part := bag_mid ns i M Q Ed i0 i1 k 10 18 (cpow_small (j := 18) (by omega) (by omega) (by omega))
  show qSeq (qAsg (qC (.int 0)) (gNameD 2)) (qSeq (qIfS (qTB (qOp (dCmpI fun i j => decide (j < i)) (qCB dLen (qCons (qVar 0) qNil)) (qC (.int 0))))
  (qAsg (qOp dIx (qVar 0) (qOp (dInt (fun _ j => 0 < j) fun i j => i % j) (qVar 1) (qCB dLen (qCons (qVar 0) qNil)))) (gNameD 2))
  qNext) (bagMid 10 18)) _ _ [some (.scr ns), some (.int i), none, none, none] M
  generalize bagMid 10 18 = mid at part ⊢
  by_cases h : ns.length = 0
  · simp only [qSeq, qIfS, qTB, qOp, qVar, qC, qAsg, gNameD, qCB, qCons, qNil, qNext, List.set_cons_zero, List.set_cons_succ, List.getElem?_cons_zero, List.getElem?_cons_succ, dCmpI_i, len_s']
    rw [if_neg (by simp [h])]
    exact part 0
  · have hp : 0 < ns.length := Nat.pos_of_ne_zero h
    simp only [qSeq, qIfS, qTB, qOp, qVar, qC, qAsg, gNameD, qCB, qCons, qNil, qNext, List.set_cons_zero, List.set_cons_succ, List.getElem?_cons_zero, List.getElem?_cons_succ, dCmpI_i, dInt_i, len_s']
    rw [if_pos (by simpa using hp)]
    obtain ⟨x, hx, _⟩ := atI_some (xs := ns) (i := i % (ns.length : Int)) (Int.emod_nonneg _ (by omega)) (Int.emod_lt_of_pos _ (by omega))
    rw [ix_s hx]
    exact ⟨by omega, part x⟩
end DL

/-! DLm: loops and comprehensions by an invariant. -/
namespace DL
open PySem L2
inductive All2 {α β : Type} (P : α → β → Prop) : List α → List β → Prop
  | nil : All2 P [] []
  | cons {a b as bs} : P a b → All2 P as bs → All2 P (a :: as) (b :: bs)
theorem All2.length {α β : Type} {P : α → β → Prop} {as : List α} {bs : List β} (h : All2 P as bs) : bs.length = as.length := by
  induction h with
  | nil => rfl
  | cons _ _ ih => simp [ih]
theorem All2.eq_map {α β : Type} {f : α → β} {as : List α} {bs : List β} (h : All2 (fun a b => b = f a) as bs) : bs = as.map f := by
  induction h with
  | nil => rfl
  | cons h _ ih => rw [h, ih]; rfl
theorem All2.get {α β : Type} {P : α → β → Prop} {as : List α} {bs : List β} (h : All2 P as bs) : ∀ (i : Nat) (a : α), as[i]? = some a → ∃ b, bs[i]? = some b ∧ P a b := by
  induction h with
  | nil => intro i a e; simp at e
  | cons h _ ih =>
    intro i a e
    cases i with
    | zero => simp at e; subst e; exact ⟨_, rfl, h⟩
    | succ i => simp at e; obtain ⟨b, h1, h2⟩ := ih i a e; exact ⟨b, by simpa using h1, h2⟩
theorem compL_rel {m : Bool} {Sty : Mst → Prop} {g : DTG} {tt : DTT} {te : DTE} {ix : List Nat} {a : Addr} {p : Rho} {Q : DK} {M : Mst} (hm : M a = none) (P : D → Option D → Prop) (hS : ∀ acc, Sty (put M a (.lst acc))) :
    ∀ (ds acc : List D), acc.length + ds.length ≤ 100000 →
      (∀ d ∈ ds, ∀ (acc : List D) (R : Option D → Mst → Prop), (∀ o, P d o → R o (put M a (.lst acc))) → g d DW0 (wipeD p ix) (put M a (.lst acc)) fun p2 M2 => tt DW0 p2 M2 fun b M3 => if b = true then te DW0 p2 M3 fun y M4 => R (some y) M4 else R none M3) →
      (∀ os : List (Option D), All2 P ds os → if m = true then Q (.ref a) (put M a (.lst (acc ++ os.filterMap id))) else Q (.lst (acc ++ os.filterMap id)) M) → compL m Sty g tt te ix a p Q ds (put M a (.lst acc))
  | [], acc, _, _, fin => by
    have := fin [] .nil
    refine ⟨hS acc, ?_⟩
    rw [put_same]
    simp only [List.filterMap_nil, List.append_nil] at this
    cases m with
    | true => exact this
    | false =>
      rw [if_neg Bool.false_ne_true] at this
      show (if false = true then Q (.ref a) (put M a (.lst acc)) else Q (.lst acc) (del (put M a (.lst acc)) a))
      rw [if_neg Bool.false_ne_true, del_put hm]; exact this
  | d :: ds, acc, hl, step, fin => by
    refine ⟨hS acc, ?_⟩
    simp only [List.length_cons] at hl
    have ih := compL_rel (m := m) (Sty := Sty) (g := g) (tt := tt) (te := te) (ix := ix) (p := p) (Q := Q) hm P hS ds
    refine step d (List.mem_cons_self ..) acc (fun o M' => match o with
      | some y => (match M' a with
        | some (.lst acc) => acc.length < 100000 ∧ compL m Sty g tt te ix a p Q ds (put M' a (.lst (acc ++ [y])))
        | _ => False)
      | none => compL m Sty g tt te ix a p Q ds M') fun o ho => ?_
    cases o with
    | some y =>
      simp only [put_same, put_put]
      refine ⟨by omega, ih (acc ++ [y]) (by simp; omega) (fun d hd => step d (List.mem_cons_of_mem _ hd)) fun os hos => ?_⟩
      have := fin (some y :: os) (.cons ho hos)
      simpa [List.filterMap_cons] using this
    | none =>
      refine ih acc (by omega) (fun d hd => step d (List.mem_cons_of_mem _ hd)) fun os hos => ?_
      have := fin (none :: os) (.cons ho hos)
      simpa [List.filterMap_cons] using this
/-- a comprehension of every item's own value -/
theorem compL_map {m : Bool} {Sty : Mst → Prop} {g : DTG} {tt : DTT} {te : DTE} {ix : List Nat} {a : Addr} {p : Rho} {Q : DK} {M : Mst} (hm : M a = none) (f : D → Option D) (hS : ∀ acc, Sty (put M a (.lst acc)))
    {ds : List D} (hl : ds.length ≤ 100000)
    (step : ∀ d ∈ ds, ∀ (acc : List D) (R : Option D → Mst → Prop), R (f d) (put M a (.lst acc)) → g d DW0 (wipeD p ix) (put M a (.lst acc)) fun p2 M2 => tt DW0 p2 M2 fun b M3 => if b = true then te DW0 p2 M3 fun y M4 => R (some y) M4 else R none M3)
    (fin : if m = true then Q (.ref a) (put M a (.lst (ds.filterMap f))) else Q (.lst (ds.filterMap f)) M) : compL m Sty g tt te ix a p Q ds (put M a (.lst [])) := by
  refine compL_rel hm (fun d o => o = f d) hS ds [] (by simpa using hl) (fun d hd acc R h => step d hd acc R (h _ rfl)) fun os hos => ?_
  rw [hos.eq_map]
  have e : (ds.map f).filterMap id = ds.filterMap f := by rw [List.filterMap_map]; rfl
  simpa [e] using fin
theorem loopL_inv {Sty : Mst → Prop} {g : DTG} {tb : DTS} {DW : DWt} {DE : DEnds} (I : Nat → Rho → Mst → Prop) {ds : List D} {n : Nat} (hn : n = ds.length)
    (step : ∀ i d p M (R : Rho → Mst → Prop), ds[i]? = some d → I i p M → (∀ p' M', I (i + 1) p' M' → R p' M') → Sty M ∧ g d DW p M fun p' M' => tb DW { DE with nx := R, ct := R, bk := DE.nx } p' M')
    (fin : ∀ p M, I n p M → Sty M ∧ DE.nx p M) {p : Rho} {M : Mst} (h : I 0 p M) : loopL Sty g tb DW DE ds p M := by
  have main : ∀ k i p M, i + k = ds.length → I i p M → loopL Sty g tb DW DE (ds.drop i) p M := by
    intro k
    induction k with
    | zero =>
      intro i p M e h
      have e' : i = ds.length := by omega
      subst e'
      rw [List.drop_length]
      exact fin p M (by rw [hn]; exact h)
    | succ k ih =>
      intro i p M e h
      have hi : i < ds.length := by omega
      rw [List.drop_eq_getElem_cons hi]
      exact step i ds[i] p M _ (List.getElem?_eq_getElem hi) h fun p' M' h' => ih (i + 1) p' M' (by omega) h'
  simpa using main ds.length 0 p M (by omega) h
theorem while_inv {qc : DTT} {tb : DTS} {DW : DWt} {DE : DEnds} (I : Nat → Rho → Mst → Prop)
    (step : ∀ n p M (R : Rho → Mst → Prop), I n p M → (∀ n' p' M', n' < n → I n' p' M' → R p' M') → qc DW p M fun b M1 => if b = true then tb DW { DE with nx := R, ct := R, bk := DE.nx } p M1 else DE.nx p M1)
    {n : Nat} {p : Rho} {M : Mst} (h : I n p M) : qWhile qc tb DW DE p M := by
  have main : ∀ N n p M, n < N → I n p M → whileL qc tb DW DE N p M := by
    intro N
    induction N with
    | zero => intro n p M h; omega
    | succ N ih =>
      intro n p M h hI
      exact step n p M _ hI fun n' p' M' hn h' => ih n' p' M' (by omega) h'
  exact ⟨n + 1, main (n + 1) n p M (by omega) h⟩

/-! ### helpers -/
theorem isDataL_all : ∀ ds : List D, isDataL ds = ds.all isData
  | [] => rfl
  | d :: ds => by simp [isDataL, isDataL_all ds]
theorem dep_nil : dep (.lst []) ≤ 64 := by decide
theorem deq_nil (xs : List D) : deq (.lst xs) (.lst []) = xs.isEmpty := by
  unfold deq
  cases xs <;> simp [pyd, pydL, PyData.eqv, PyData.eqvAll]
theorem eq_nil {neg : Bool} {x : D} {ds : List D} {M : Mst} {Q : DK} (hx : res M x = .lst ds) (h : ds.all isData = true) : dEq neg x (.lst []) M Q = Q (.bl (xor neg ds.isEmpty)) M := by
  unfold dEq
  rw [hx, res_lst, deq_nil]
  have h1 : isData (.lst ds) = true := by rw [isData, isDataL_all]; exact h
  have h2 : isData (.lst []) = true := rfl
  have h3 : min (dep (.lst ds)) (dep (.lst [])) ≤ 64 := Nat.le_trans (Nat.min_le_right _ _) dep_nil
  simp [h1, h2, h3]
theorem deq_int (i j : Int) : deq (.int i) (.int j) = decide (i = j) := by
  unfold deq; simp only [pyd, PyData.eqv]
  exact Bool.beq_eq_decide_eq _ _
theorem eq_int {neg : Bool} {i j : Int} {M : Mst} {Q : DK} : dEq neg (.int i) (.int j) M Q = Q (.bl (xor neg (decide (i = j)))) M := by
  unfold dEq
  rw [res_int, res_int, deq_int]
  have h1 : isData (.int i) = true := rfl
  have h2 : isData (.int j) = true := rfl
  have h3 : min (dep (.int i)) (dep (.int j)) ≤ 64 := by simp [dep, pyd, PyData.depth]
  simp [h1, h2, h3]
theorem res_r {M : Mst} {a : Addr} {ds : List D} (h : M a = some (.lst ds)) : res M (.ref a) = .lst ds := by simp [res, h]
theorem res_d {M : Mst} {a : Addr} {kvs : List (Key × D)} (h : M a = some (.dK kvs)) : res M (.ref a) = .dct (kvs.map (·.1)) (kvs.map (·.2)) := by simp [res, h]
/-- the places of what a test lets by -/
def placesF (f : D → Bool) : Nat → List D → List Nat
  | _, [] => []
  | s, d :: ds => if f d = true then s :: placesF f (s + 1) ds else placesF f (s + 1) ds
theorem mem_places {f : D → Bool} : ∀ {s : Nat} {ds : List D} {v : Nat}, v ∈ placesF f s ds ↔ s ≤ v ∧ ∃ d, ds[v - s]? = some d ∧ f d = true
  | s, [], v => by simp [placesF]
  | s, d :: ds, v => by
    unfold placesF
    have ih := mem_places (f := f) (s := s + 1) (ds := ds) (v := v)
    have sh : s + 1 ≤ v → v - s = (v - (s + 1)) + 1 := by omega
    split
    · next h =>
      rw [List.mem_cons, ih]
      constructor
      · rintro (rfl | ⟨h1, x, h2, h3⟩)
        · exact ⟨Nat.le_refl _, d, by simp, h⟩
        · exact ⟨by omega, x, by rw [sh h1]; simpa using h2, h3⟩
      · rintro ⟨h1, x, h2, h3⟩
        by_cases e : v = s
        · exact .inl e
        · have : s + 1 ≤ v := by omega
          exact .inr ⟨this, x, by rw [sh this] at h2; simpa using h2, h3⟩
    · next h =>
      rw [ih]
      constructor
      · rintro ⟨h1, x, h2, h3⟩
        exact ⟨by omega, x, by rw [sh h1]; simpa using h2, h3⟩
      · rintro ⟨h1, x, h2, h3⟩
        by_cases e : v = s
        · subst e; simp at h2; subst h2; exact absurd h3 h
        · have : s + 1 ≤ v := by omega
          exact ⟨this, x, by rw [sh this] at h2; simpa using h2, h3⟩
theorem places_len {f : D → Bool} : ∀ {s : Nat} {ds : List D}, (placesF f s ds).length ≤ ds.length
  | s, [] => Nat.le_refl _
  | s, d :: ds => by
    have := places_len (f := f) (s := s + 1) (ds := ds)
    unfold placesF
    split <;> simp <;> omega
theorem enum_places {f : D → Bool} {g : D → Option D} (hg : ∀ i d, g (.tup [.int i, d]) = if f d = true then some (.int i) else none) : ∀ (s : Nat) (ds : List D), (enumD s ds).filterMap g = (placesF f s ds).map fun v : Nat => D.int (v : Int)
  | s, [] => rfl
  | s, d :: ds => by
    unfold enumD placesF
    rw [List.filterMap_cons, hg]
    have ih := enum_places hg (s + 1) ds
    split
    · next h => simp [ih]; split at h <;> simp_all
    · next b h => split at h <;> simp_all

theorem cut_from {α : Type} (xs : List α) (k : Nat) : cutX xs (some (k : Int)) none = xs.drop k := by
  unfold cutX
  rw [HT.sIx_nat, HT.sIx_none]
  rcases Nat.le_total k xs.length with h | h
  · rw [Nat.min_eq_left h, List.take_of_length_le (by simp)]
  · rw [Nat.min_eq_right h, List.drop_length, List.drop_eq_nil_of_le h]; simp
theorem cut_to {α : Type} (xs : List α) (k : Nat) : cutX xs none (some (k : Int)) = xs.take k := by
  unfold cutX
  rw [HT.sIx_nat, HT.sIx_none, Nat.sub_zero, List.drop_zero]
  rcases Nat.le_total k xs.length with h | h
  · rw [Nat.min_eq_left h]
  · rw [Nat.min_eq_right h, List.take_length, List.take_of_length_le h]
theorem sl_from {m : Bool} {ds : List D} {k : Nat} {M : Mst} {Q : DK} : dSl m (.lst ds) (some (k : Int)) none M Q = newL m (ds.drop k) M Q := by
  simp only [dSl, res_lst, cut_from]
theorem sl_to {m : Bool} {ds : List D} {k : Nat} {M : Mst} {Q : DK} : dSl m (.lst ds) none (some (k : Int)) M Q = newL m (ds.take k) M Q := by
  simp only [dSl, res_lst, cut_to]
theorem any_ints (i : Int) (ns : List Int) : ((ns.map D.int).any fun e => deq e (.int i)) = decide (i ∈ ns) := by
  induction ns with
  | nil => rfl
  | cons n ns ih =>
    rw [List.map_cons, List.any_cons, ih, deq_int, ← Bool.decide_or]
    apply decide_eq_decide.mpr
    simp [eq_comm]
theorem flat_ints (ns : List Int) : (ns.map D.int).all flatD = true := List.all_eq_true.mpr fun x hx => by
  obtain ⟨n, _, rfl⟩ := List.mem_map.mp hx; rfl
theorem in_ints {neg : Bool} {i : Int} {ns : List Int} {M : Mst} {Q : DK} : dIn neg (.int i) (.lst (ns.map D.int)) M Q = Q (.bl (xor neg (decide (i ∈ ns)))) M := by
  unfold dIn
  simp only [dgetD, res_lst, any_ints, flat_ints]
  simp [flatD]
theorem data_ints (ns : List Int) : (ns.map D.int).all isData = true := List.all_eq_true.mpr fun x hx => by
  obtain ⟨n, _, rfl⟩ := List.mem_map.mp hx; rfl
end DL

/-! DLn: dict.update of a list of pairs; calls with keywords. -/
namespace DL
open PySem L2

/-! ### update -/
section
variable {X : Cx}
theorem pairs_vals {pins : List (Addr × Obj)} {σ : L2.St} {H : Hp} {s : Shared} (I : Inv X pins σ H s) : ∀ {ps : List Addr} {kvs : List (Key × V)}, Paired (fun p kv => SqT X.K H p [kV kv.1, kv.2]) ps kvs →
    ∃ (prs : List (Key × Value)) (vps : List (Value × Value)), KV kvs prs ∧ prs.length = ps.length ∧ vps.length = ps.length ∧
      (∀ (j : Nat) (k v : Value), vps[j]? = some (k, v) → ∃ (b : Addr) (q : Key), ps[j]? = some b ∧ s.heap.IsTuple b #[k, v] ∧ prs[j]? = some (q, v) ∧ keyIs q k = true)
  | _, _, .nil => ⟨[], [], .nil, rfl, rfl, fun j k v e => by simp at e⟩
  | _, _, .cons (a := p) (b := kv) h t => by
    obtain ⟨prs, vps, r, hl, hl2, hp⟩ := pairs_vals I t
    obtain ⟨its, rv, ht, _⟩ := I.tuple h
    obtain ⟨u, y, ei, ru, ry⟩ := vals2 rv
    subst ei
    refine ⟨(kv.1, y) :: prs, (u, y) :: vps, .cons ⟨rfl, ry⟩ r, by simp [hl], by simp [hl2], fun j k v e => ?_⟩
    cases j with
    | zero =>
      have e' : (u, y) = (k, v) := Option.some.inj e
      cases e'
      exact ⟨p, kv.1, rfl, ht, rfl, kV_is (P := X.prog) (w := X.w) ru⟩
    | succ j =>
      obtain ⟨b, q, e1, e2, e3, e4⟩ := hp j k v (by simpa using e)
      exact ⟨b, q, by simpa using e1, e2, by simpa using e3, e4⟩
def rUpdL (K : PySem.W.Frag) : V → List V → Hp → VK → Prop := fun x vs H Q => ∃ (a b : Addr) (kvs : List (Key × V)) (ps : List Addr) (more : List (Key × V)), x = .ref a ∧ vs = [.ref b] ∧ H a = some (.dK kvs) ∧ SqL K H b (ps.map V.ref) ∧
  Paired (fun p kv => SqT K H p [kV kv.1, kv.2]) ps more ∧ kvs.length + more.length ≤ sizeLine ∧ Q .non (upd H a (.dK (mergeK kvs more)))
theorem mt_update (hcalm : X.calm = true) : MtR X "dict.update" (rUpdL X.K) := by
  intro pins s σ H x vs v us Q I rx rv h
  obtain ⟨a, b, kvs, ps, more, rfl, rfl, hH, hq, hp, hl, q⟩ := h
  cases rx
  obtain ⟨u, rfl, ru⟩ := rv.one
  cases ru
  obtain ⟨its, rv2, pl, hz⟩ := I.list hq
  have ei := refs_at rv2
  subst ei
  obtain ⟨prs, vps, rel, l1, l2, hv⟩ := pairs_vals I hp
  obtain ⟨z, hd, acc, racc, dd⟩ := dk_of I.hok hH
  obtain ⟨o, n, ho, hc, hdi, hdat⟩ := pl
  have hm : prs.length = more.length := rel.length.symm
  have nab : ∀ b o, s.heap.get? b = some o → (o.cls = .type "tuple" ∨ o.cls = .type "list") → a ≠ b := fun b o h1 h2 e => by
    subst e
    obtain ⟨o2, h3, h4⟩ := dd.typeIs
    rw [h1] at h3; cases h3
    rw [h4] at h2
    rcases h2 with h2 | h2 <;> (injection h2 with z; exact absurd z (by decide))
  have PI : PairItems s.heap (ps.map Value.ref).toArray (fun j => ps.getD j 0) vps := ⟨by simp [l2], fun j k v e => by
    obtain ⟨t, q2, e1, e2, _, _⟩ := hv j k v e
    have e3 : ps.getD j 0 = t := by simp [List.getD, e1]
    exact ⟨by simp [e1, e3], by show PairAt s.heap (ps.getD j 0) k v; rw [e3]; exact .inl e2⟩⟩
  refine call_update_pairs (knd := mixKind X.prog X.w) (acc := acc) (kvs := prs) (PairArg.list (prog := X.prog) (w := X.w) b (ps.map Value.ref).toArray (fun j => ps.getD j 0) vps) (I.ok.hd hcalm)
    ⟨⟨o, n, ho, hc, hdi, hdat⟩, PI⟩ ?_ ?_ dd ?_ fun h' tk dd' hk => ?_
  · intro e
    rcases List.mem_cons.mp e with e | e
    · exact nab b o ho (.inr hc) e
    · obtain ⟨j, hj, e⟩ := List.mem_map.mp e
      rw [List.mem_range] at hj
      obtain ⟨ob, h1, h2⟩ := ((PI.2 j vps[j].1 vps[j].2 (by rw [List.getElem?_eq_getElem hj])).2).there
      exact nab _ ob h1 h2 e.symm
  · refine ⟨by omega, fun i k v e => ?_⟩
    obtain ⟨t, q2, _, _, e3, e4⟩ := hv i k v e
    exact ⟨q2, e3, e4⟩
  · have := racc.length; omega
  · have hlen : (mergeK kvs more).length ≤ sizeLine := Nat.le_trans (length_mergeK more kvs) hl
    have he : ∃ q, h'.get? a = some q := let ⟨q, _, _, hq, _⟩ := dd'; ⟨q, hq⟩
    refine ⟨.non, _, I.write (t' := tk) (x := a) (e := a) (by rw [hH]; exact True.intro) (.inl rfl) (fun b q hb z => hk b q hb (by simp) z) he (dk_new hlen hd (KV.merge rel racc) dd'), rfl, q⟩
end

def pairsD : List D → Option (List (Key × D))
  | [] => some []
  | .tup [k, v] :: ds => match keyD k, pairsD ds with
    | some k, some r => some ((k, v) :: r)
    | _, _ => none
  | _ :: _ => none
def putAllD (kvs : List (Key × D)) (more : List (Key × D)) : List (Key × D) := more.foldl (fun acc q => putD acc q.1 q.2) kvs
theorem pairsD_of {K : PySem.W.Frag} {G H : Hp} (e : Same G H) : ∀ {ds : List D} {vs : List V} {more : List (Key × D)}, RepL K G ds vs → pairsD ds = some more →
    ∃ (ps : List Addr) (mv : List (Key × V)), vs = ps.map V.ref ∧ Paired (fun p kv => SqT K H p [kV kv.1, kv.2]) ps mv ∧ mv.map (·.1) = more.map (·.1) ∧ RepL K G (more.map (·.2)) (mv.map (·.2)) ∧ ∀ q ∈ more, kOk q.1
  | [], _, more, r, h => by
    cases r; cases h
    exact ⟨[], [], rfl, .nil, rfl, rfl, fun _ h => (by cases h)⟩
  | d :: ds, _, more, ⟨v, vs, e1, r1, r2⟩, h => by
    cases d with
    | tup xs =>
      match xs with
      | [k, x] =>
        simp only [pairsD] at h
        split at h
        · next k' r' hk hr =>
          cases h
          obtain ⟨ps, mv, q1, q2, q3, q4, q5⟩ := pairsD_of e r2 hr
          obtain ⟨a, us, rfl, g1, g2, g3⟩ := r1
          obtain ⟨u, y, rfl, ru, ry⟩ := repL2 g2
          have eu := keyD_of ru hk
          subst eu
          exact ⟨a :: ps, (k', y) :: mv, by rw [e1, q1]; rfl, .cons (.inl (.inl (e _ _ g1))) q2, by simp [q3], RepL.cons ry q4, fun q hq => by
            rcases List.mem_cons.mp hq with rfl | hq
            · exact kOk_of ru hk
            · exact q5 q hq⟩
        · cases h
      | [] => cases h
      | [_] => cases h
      | _ :: _ :: _ :: _ => cases h
    | _ => cases h
theorem putAll_rel {K : PySem.W.Frag} {G : Hp} : ∀ {more : List (Key × D)} {mv : List (Key × V)} {kvs : List (Key × D)} {kv : List (Key × V)}, mv.map (·.1) = more.map (·.1) → RepL K G (more.map (·.2)) (mv.map (·.2)) →
    kv.map (·.1) = kvs.map (·.1) → RepL K G (kvs.map (·.2)) (kv.map (·.2)) → (mergeK kv mv).map (·.1) = (putAllD kvs more).map (·.1) ∧ RepL K G ((putAllD kvs more).map (·.2)) ((mergeK kv mv).map (·.2))
  | [], mv, kvs, kv, h1, r1, h2, r2 => by
    cases mv with
    | nil => exact ⟨h2, r2⟩
    | cons _ _ => cases h1
  | q :: more, mv, kvs, kv, h1, r1, h2, r2 => by
    cases mv with
    | nil => cases h1
    | cons p mv =>
      simp only [List.map_cons, List.cons.injEq] at h1
      obtain ⟨v, r', e, h3, h4⟩ := r1
      simp only [List.map_cons, List.cons.injEq] at e
      obtain ⟨rfl, rfl⟩ := e
      obtain ⟨z1, z2, _⟩ := put_rel (k := q.1) h2 r2 h3
      have e0 : mergeK kv (p :: mv) = mergeK (putK kv q.1 p.2) mv := by rw [← h1.1]; rfl
      rw [e0]
      exact putAll_rel (more := more) (kvs := putD kvs q.1 q.2) h1.2 h4 z1 z2
theorem putAll_keys {P : Key → Prop} : ∀ {more kvs : List (Key × D)}, (∀ q ∈ kvs, P q.1) → (∀ q ∈ more, P q.1) → ∀ q ∈ putAllD kvs more, P q.1
  | [], kvs, h, _ => h
  | q :: more, kvs, h, g => putAll_keys (more := more) (kvs := putD kvs q.1 q.2) (putD_keys h (g q (List.mem_cons_self ..))) fun x hx => g x (List.mem_cons_of_mem _ hx)
def mUpd : DMt := fun x ds M Q => match x, ds with
  | .ref a, [d] => match M a, res M d with
    | some (.dK kvs), .lst es => match pairsD es with
      | some more => kvs.length + more.length ≤ 100000 ∧ Q .non (put M a (.dK (putAllD kvs more)))
      | none => False
    | _, _ => False
  | _, _ => False
theorem m_update {X : Cx} (hc : X.calm = true) : QMt X "dict.update" (rUpdL X.K) mUpd := ⟨mt_update hc, fun G H p M s x v ds vs Q Q' S r1 r2 h k => by
  unfold mUpd at h
  split at h
  · next a d =>
    cases r1
    obtain ⟨u, rfl, r3⟩ := repL1 r2
    split at h
    · next kvs es em ed =>
      split at h
      · next more hm =>
        obtain ⟨hl, h⟩ := h
        obtain ⟨gn, kv, g1, g2, g3, g4, g5⟩ := S.mem _ _ em
        obtain ⟨b, vs, rfl, b1, b2, b3⟩ := as_lst S r3 ed
        obtain ⟨ps, mv, rfl, q2, q3, q4, q5⟩ := pairsD_of S.same b2 hm
        have l1 : kv.length = kvs.length := by have := congrArg List.length g2; simpa using this
        have l2 : mv.length = more.length := by have := congrArg List.length q3; simpa using this
        have hz := sizeLine_eq
        obtain ⟨z1, z2⟩ := putAll_rel q3 q4 g2 g3
        refine ⟨a, b, kv, ps, mv, rfl, rfl, g1, .inl (.inl b1), q2, by omega, ?_⟩
        refine k G _ _ .non _ (Same.refl _) (S.put (mo := .dK (putAllD kvs more)) gn ⟨_, upd_same, z1, z2, ?_, putAll_keys g5 q5⟩) rfl h
        have := length_mergeK mv kv
        omega
      · exact h.elim
    · exact h.elim
  · exact h.elim⟩
/-- d.m(e, ..), d a dict that may change -/
def qBMD (m : DMt) (qo : DTE) (qa : DTA) : DTE := fun DW p M Q => qo DW p M fun x M1 => (∃ a kvs, x = .ref a ∧ M1 a = some (.dK kvs)) ∧ qa DW p M1 fun ds M2 => m x ds M2 Q
section
variable {X : Cx} {W : WX} {o e : Expr} {es : List Expr} {to : TE} {qo : DTE} {t : TA} {qa : DTA} {name : Str} {apos cpos : Pos} {id : String} {r : V → List V → Hp → VK → Prop} {m : DMt}
theorem q_bmD (pa : PlainAttrs "dict") (slot : Slot "dict" name id) (hty : typeOf (.builtin id) = pure (.type "method_descriptor")) (hm : QMt X id r m) (ho : QE X W o to qo) (ha : QA X W (e :: es) t qa)
    (hbase : attributeBase o name X.env (eval o X.env) = eval o X.env := by rfl)
    (hfew : ((backTo cpos (starEach (e :: es) X.env)).all (fun x => !x.1) && (backToKw cpos (keywordEach [] X.env)).all (fun x => x.1.isSome)
      && decide ((e :: es).length + ([] : List Keyword).length + (if ([] : List Keyword).isEmpty then 0 else 1) < 30)) = true := by rfl)
    (hline : (apos.endLine == cpos.line) = true := by rfl) (hs : starEach (e :: es) X.env = (false, eval e X.env) :: starEach es X.env := by rfl) (hplain : (backTo cpos (starEach es X.env)).any (·.1) = false := by rfl) :
    QE X W (.Call (.Attribute o name apos) (e :: es) [] cpos) (tBM X.K "dict" r to t) (qBMD m qo qa) :=
  ⟨pe_bm pa slot hty hm.op ho.pe ha.pe hbase hfew hline hs hplain, fun DW G H p M s Q Q' hw S h k => ho.rf DW G H p M s _ _ hw S h fun G1 H1 M1 x v e1 S1 r1 ⟨⟨a, kvs, ex, em⟩, h1⟩ => ⟨by
    subst ex
    cases r1
    obtain ⟨_, kv, g1, _⟩ := S1.mem _ _ em
    exact .inr (.inr (.inl ⟨rfl, .inl ⟨kv, g1⟩⟩)),
    ha.rf DW G1 H1 p M1 s _ _ (hw.mono e1) S1 h1 fun G2 H2 M2 ds vs e2 S2 r2 h2 => hm.rf G2 H2 p M2 s x v ds vs Q Q' S2 (Rep.mono e2 _ _ r1) r2 h2 fun G' H' M' d w e3 => k G' H' M' d w ((e1.trans e2).trans e3)⟩⟩
end

/-! ### calls with keywords -/
structure QK (X : Cx) (W : WX) (kws : List Keyword) (t : TA) (q : DTA) : Prop where
  pe : PK X kws t
  rf : RefA X.K W t q
def pickL {α : Type} (idx : List Nat) (l : List α) : List α := idx.filterMap (l[·]?)
theorem pick_vals {vs : List V} {us : List Value} (r : Vals vs us) : ∀ idx : List Nat, Vals (pickL idx vs) (pickL idx us)
  | [] => .nil
  | i :: idx => by
    have ih := pick_vals r idx
    unfold pickL at ih ⊢
    rw [List.filterMap_cons, List.filterMap_cons]
    have : (vs[i]? = none ∧ us[i]? = none) ∨ ∃ v u, vs[i]? = some v ∧ us[i]? = some u ∧ RelV v u := by
      clear ih
      induction r generalizing i with
      | nil => exact .inl ⟨rfl, rfl⟩
      | cons h _ ih =>
        cases i with
        | zero => exact .inr ⟨_, _, rfl, rfl, h⟩
        | succ i => simpa using ih i
    rcases this with ⟨e1, e2⟩ | ⟨v, u, e1, e2, e3⟩
    · rw [e1, e2]; exact ih
    · rw [e1, e2]; exact .cons e3 ih
theorem pick_rep {K : PySem.W.Frag} {G : Hp} {ds : List D} {vs : List V} (r : RepL K G ds vs) : ∀ idx : List Nat, RepL K G (pickL idx ds) (pickL idx vs)
  | [] => rfl
  | i :: idx => by
    have ih := pick_rep r idx
    unfold pickL at ih ⊢
    rw [List.filterMap_cons, List.filterMap_cons]
    cases e : ds[i]? with
    | some d =>
      obtain ⟨v, e1, e2⟩ := r.get e
      rw [e1]; exact RepL.cons e2 ih
    | none =>
      cases e1 : vs[i]? with
      | none => exact ih
      | some v => obtain ⟨d, e2, _⟩ := r.getV e1; rw [e] at e2; cases e2
section
variable {X : Cx} {W : WX} {k : Nat} {f : Addr} {fd : FuncData} {ps ks : List Str} {P : DSp} {x : Str} {p pos kpos : Pos} {e : Expr} {es : List Expr} {kws : List Keyword} {te : TE} {qe : DTE} {t tk : TA} {q qk : DTA} {nm : Option Str} {n : Nat} {idx : List Nat}
theorem qk_nil : QK X W [] tNil qNil := ⟨pk_nil, fun DW G H p M s Q Q' hw S q k => k G H M [] [] (Same.refl _) S rfl q⟩
theorem qk_cons (ha : QE X W e te qe) (hr : QK X W kws t q) : QK X W (⟨nm, e, kpos⟩ :: kws) (tCons te t) (qCons qe q) :=
  ⟨pk_cons ha.pe hr.pe, fun DW G H p M s Q Q' hw S h k => ha.rf DW G H p M s _ _ hw S h fun G1 H1 M1 d v e1 S1 r1 h1 =>
    hr.rf DW G1 H1 p M1 s _ _ (hw.mono e1) S1 h1 fun G2 H2 M2 ds vs e2 S2 r2 h2 => k G2 H2 M2 _ _ (e1.trans e2) S2 (RepL.cons (Rep.mono e2 _ _ r1) r2) h2⟩
/-- how a call with n values and the keywords ks binds: the parameters' values by their places -/
def KwB (K : PySem.W.Frag) (fd : FuncData) (ps : List Str) (n : Nat) (ks : List Str) (idx : List Nat) : Prop :=
  ∀ (s : Shared) (us ws : List Value), us.length = n → ws.length = ks.length → BindsTo s fd ⟨us, ks.zip ws⟩ (ps.zip (pickL idx (us ++ ws)))
theorem kwb {K : PySem.W.Frag} {x qual : Str} {st : Stmt} {f : Addr} {fd : FuncData} {ps ks : List Str} {n : Nat} {idx : List Nat} (F : Fun K x qual st f fd)
    (h : ∀ (kV doc pm : Value) (an : Option Addr) (cdv ct : Value) (us ws : List Value), us.length = n → ws.length = ks.length → bindArgs (PySem.W.fnOf x qual (defArgs st) (defBody st) (defScope st) .none kV doc pm an cdv ct) ⟨us, ks.zip ws⟩ = pure (ps.zip (pickL idx (us ++ ws)))) : KwB K fd ps n ks idx := by
  obtain ⟨oc, od, kV, doc, pm, an, cdv, ct, osl, rfl, lk, hcd⟩ := F.ex
  exact fun s us ws h1 h2 => .of_eq (h kV doc pm an cdv ct us ws h1 h2)
def tCallKw (n m : Nat) (sp : Sp) (idx : List Nat) (E : L2.St → XK) (t tk : TA) : TE := fun σ H Q => t σ H fun vs H1 => tk σ H1 fun zs H2 => vs.length = n ∧ zs.length = m ∧ sp (pickL idx (vs ++ zs)) H2 Q (E σ)
def qCallKw (n m : Nat) (P : DSp) (idx : List Nat) (qa qk : DTA) : DTE := fun DW p M Q => qa DW p M fun ds M1 => qk DW p M1 fun zs M2 => ds.length = n ∧ zs.length = m ∧ P (pickL idx (ds ++ zs)) M2 Q fun x M3 => DW x p M3
theorem run_kw {sp : Sp} {E : L2.St → XK} {CX : CXT} {pins : List (Addr × Obj)} {σ : L2.St} {H : Hp} {s : Shared} {Q : VK} {us ws : List Value} {vs zs : List V} (F : FnOk X.prog X.w X.K X.mg X.base CX k f fd ps sp) (hr : Room k X.A) (hb : KwB X.K fd ps n ks idx) (hx : PassesAt CX X σ (E σ))
    (I : Inv X pins σ H s) (r : Vals vs us) (rz : Vals zs ws) (l1 : vs.length = n) (l2 : zs.length = ks.length) (h : sp (pickL idx (vs ++ zs)) H Q (E σ)) : wpAny (model X.prog X.w) X.A (call (.ref f) us (ks.zip ws)) (EP X pins σ Q) X.xe s := by
  have r2 := pick_vals (r.append rz) idx
  refine wpAny_call (codeAny_mono (F.run X.A X.stack s H ⟨us, ks.zip ws⟩ _ _ Q (E σ) hr I.env0 (hb s us ws (r.length.symm.trans l1) (rz.length.symm.trans l2)) r2 h) fun r s' hq => ?_)
  cases r with
  | error e => exact hx pins H s e s' I hq
  | ok fl =>
    cases fl with
    | ret u => exact I.after hq
    | next => exact False.elim hq
    | brk => exact False.elim hq
    | cont => exact False.elim hq
theorem ref_callKw {K : PySem.W.Frag} {m : Nat} (ha : RefA K W t q) (hkw : RefA K W tk qk) : RefE K W (tCallKw n m (toSp K P) idx (fun s => WE W s) t tk) (qCallKw n m P idx q qk) :=
  fun DW G H p M s Q Q' hw S h k => ha DW G H p M s _ _ hw S h fun G1 H1 M1 as vs e1 S1 r1 h1 => hkw DW G1 H1 p M1 s _ _ (hw.mono e1) S1 h1 fun G2 H2 M2 zs ws e2 S2 r2 ⟨l1, l2, h2⟩ =>
    ⟨by rw [r1.length]; exact l1, by rw [r2.length]; exact l2, toSp_at (hw.mono (e1.trans e2)) S2 (pick_rep (RepL.append (RepL.mono e2 _ _ r1) r2) idx) h2 fun G' H' M' d v e3 => k G' H' M' d v ((e1.trans e2).trans e3)⟩
/-- f(k = v, ..) -/
theorem q_callK0 (F : FnOk X.prog X.w X.K X.mg X.base (L2.CX X.prog X.w) k f fd ps (toSp X.K P)) (hr : Room k X.A) (tkk : Takes X W) (hg : Gl X x) (hm : X.mg x = some (.ref f)) (hk : PySem.W.keepIn X.K (.ref f) = true) (hb : KwB X.K fd ps 0 ks idx)
    (hkw : QK X W kws tk qk) (hall : (backToKw pos (keywordEach kws X.env)).all (·.1.isSome) = true := by rfl) (hks : (backToKw pos (keywordEach kws X.env)).filterMap (·.1) = ks := by rfl)
    (hdb : (x == ("__debug__" : Str)) = false := by decide) (hpl : ((backTo pos (starEach [] X.env)).any (·.1) || (backToKw pos (keywordEach kws X.env)).any (·.1.isNone)) = false := by rfl) :
    QE X W (.Call (.Name x p) [] kws pos) (tCallKw 0 ks.length (toSp X.K P) idx (fun s => WE W s) tNil tk) (qCallKw 0 ks.length P idx qNil qk) := by
  refine ⟨⟨fun pins s σ H Q I h => ?_⟩, ref_callKw (fun DW G H p M s Q Q' hw S q k => k G H M [] [] (Same.refl _) S rfl q) hkw.rf⟩
  refine wpAny_Call_Name_kw (ld_glob I hg hm ?_ hdb)
  refine PySem.W.callWith_KW0 (h₀ := X.base) I.ok.mod.kin hk hall (thn (hkw.pe.run pos pins s σ H _ I h) fun ws s2 ⟨zs, H2, I2, rz, l1, l2, q2⟩ => ⟨I2.kIn, ?_⟩) hpl
  rw [hks]
  exact run_kw (E := fun s => WE W s) F hr hb (passAt tkk σ) I2 .nil rz l1 l2 q2
/-- f(e, .., k = v, ..) -/
theorem q_callK (F : FnOk X.prog X.w X.K X.mg X.base (L2.CX X.prog X.w) k f fd ps (toSp X.K P)) (hr : Room k X.A) (tkk : Takes X W) (hg : Gl X x) (hm : X.mg x = some (.ref f)) (hk : PySem.W.keepIn X.K (.ref f) = true) (hb : KwB X.K fd ps n ks idx)
    (ha : QA X W (e :: es) t q) (hkw : QK X W kws tk qk) (hall : (backToKw pos (keywordEach kws X.env)).all (·.1.isSome) = true := by rfl) (hks : (backToKw pos (keywordEach kws X.env)).filterMap (·.1) = ks := by rfl)
    (hdb : (x == ("__debug__" : Str)) = false := by decide) (he : starEach (e :: es) X.env = (false, eval e X.env) :: starEach es X.env := by rfl)
    (hpl : ((backTo pos (starEach (e :: es) X.env)).any (·.1) || (backToKw pos (keywordEach kws X.env)).any (·.1.isNone)) = false := by rfl) :
    QE X W (.Call (.Name x p) (e :: es) kws pos) (tCallKw n ks.length (toSp X.K P) idx (fun s => WE W s) t tk) (qCallKw n ks.length P idx q qk) := by
  refine ⟨⟨fun pins s σ H Q I h => ?_⟩, ref_callKw ha.rf hkw.rf⟩
  refine wpAny_Call_Name_kw (ld_glob I hg hm ?_ hdb)
  refine PySem.W.callWith_KW (h₀ := X.base) I.ok.mod.kin hk hall (thn (ha.pe.run pos pins s σ H _ I h) fun us s1 ⟨vs, H1, I1, r, q⟩ => ?_) hpl he
  refine thn (hkw.pe.run pos pins s1 σ H1 _ I1 q) fun ws s2 ⟨zs, H2, I2, rz, l1, l2, q2⟩ => ⟨I2.kIn, ?_⟩
  rw [hks]
  exact run_kw (E := fun s => WE W s) F hr hb (passAt tkk σ) I2 r rz l1 l2 q2
end
end DL

/-! DLo: data that are alike; what things are. -/
namespace DL
open PySem L2
mutual
theorem deq_refl : ∀ d : D, isData d = true → deq d d = true
  | .non, _ => by simp [deq, pyd, PyData.eqv]
  | .bl b, _ => by simp [deq, pyd, PyData.eqv]
  | .int i, _ => by simp [deq, pyd, PyData.eqv]
  | .str x, _ => by simp [deq, pyd, PyData.eqv]
  | .tup ds, h => by have := deqL_refl ds h; simpa [deq, deqL, pyd, PyData.eqv] using this
  | .ktp ds, h => by have := deqL_refl ds h; simpa [deq, deqL, pyd, PyData.eqv] using this
  | .lst ds, h => by have := deqL_refl ds h; simpa [deq, deqL, pyd, PyData.eqv] using this
  | .scr _, h => by cases h
  | .ty _, h => by cases h
  | .ref _, h => by cases h
  | .dct _ _, h => by cases h
  | .ins _ _ _, h => by cases h
theorem deqL_refl : ∀ ds : List D, isDataL ds = true → deqL ds ds = true
  | [], _ => by simp [deqL, pydL, PyData.eqvAll]
  | d :: ds, h => by
    have h' : isData d = true ∧ isDataL ds = true := by simpa [isDataL] using h
    have h1 := deq_refl d h'.1
    have h2 := deqL_refl ds h'.2
    simp only [deq, deqL, pydL, PyData.eqvAll] at h1 h2 ⊢
    rw [h1, h2]; rfl
end
theorem deq_str (x y : Str) : deq (.str x) (.str y) = decide (x = y) := by
  unfold deq; simp only [pyd, PyData.eqv]; exact Bool.beq_eq_decide_eq _ _
theorem deq_bl (x y : Bool) : deq (.bl x) (.bl y) = decide (x = y) := by
  unfold deq; simp only [pyd, PyData.eqv]; exact Bool.beq_eq_decide_eq _ _
theorem depA_le {n : Nat} : ∀ ds : List D, (∀ d ∈ ds, dep d ≤ n) → PyData.depthAll (pydL ds) ≤ n
  | [], _ => by simp [pydL, PyData.depthAll]
  | d :: ds, h => by
    have h1 := h d (List.mem_cons_self ..)
    have h2 := depA_le ds fun x hx => h x (List.mem_cons_of_mem _ hx)
    unfold dep at h1
    simp only [pydL, PyData.depthAll]
    omega
theorem dep_lst {n : Nat} {ds : List D} (h : ∀ d ∈ ds, dep d ≤ n) : dep (.lst ds) ≤ n + 1 := by
  have := depA_le ds h
  simp only [dep, pyd, PyData.depth]; omega
theorem dep_tup {n : Nat} {ds : List D} (h : ∀ d ∈ ds, dep d ≤ n) : dep (.tup ds) ≤ n + 1 := by
  have := depA_le ds h
  simp only [dep, pyd, PyData.depth]; omega
theorem dep_flat {d : D} (h : flatD d = true) : dep d = 0 := by
  cases d with
  | non => simp [dep, pyd, PyData.depth]
  | bl _ => simp [dep, pyd, PyData.depth]
  | int _ => simp [dep, pyd, PyData.depth]
  | str _ => simp [dep, pyd, PyData.depth]
  | _ => cases h
/-- == of what is the same -/
theorem eq_same {neg : Bool} {x y d : D} {M : Mst} {Q : DK} (hx : res M x = d) (hy : res M y = d) (h : isData d = true) (hd : dep d ≤ 64) : dEq neg x y M Q = Q (.bl (!neg)) M := by
  unfold dEq
  rw [hx, hy, deq_refl d h]
  have h3 : min (dep d) (dep d) ≤ 64 := Nat.le_trans (Nat.min_le_left _ _) hd
  simp only [h, h3, Bool.xor_true, true_and]
theorem eq_str {neg : Bool} {x y : Str} {M : Mst} {Q : DK} : dEq neg (.str x) (.str y) M Q = Q (.bl (xor neg (decide (x = y)))) M := by
  unfold dEq
  rw [res_str, res_str, deq_str]
  have h1 : isData (.str x) = true := rfl
  have h2 : isData (.str y) = true := rfl
  have h3 : min (dep (.str x)) (dep (.str y)) ≤ 64 := by simp [dep, pyd, PyData.depth]
  simp [h1, h2, h3]
/-- isinstance(x, T) -/
theorem isi_one {x : D} {T : String} {b : Bool} {M : Mst} {Q : DK} (h : hasTy (res M x) = true) (hb : isiB (tyD (res M x)) T = some b) : dIsi [x, .ty T] M Q = Q (.bl b) M := by
  unfold dIsi; simp only [h, hb, true_and]
theorem isi_tup {x : D} {Ts : List D} {b : Bool} {M : Mst} {Q : DK} (h : hasTy (res M x) = true) (hb : isiL (tyD (res M x)) Ts = some b) : dIsi [x, .tup Ts] M Q = Q (.bl b) M := by
  unfold dIsi; simp only [h, hb, true_and]
theorem ll : isiB "list" "list" = some true := by decide +kernel
theorem tt_ : isiB "tuple" "tuple" = some true := by decide +kernel
theorem ii : isiB "int" "int" = some true := by decide +kernel
theorem ib : isiB "int" "bool" = some false := by decide +kernel
theorem tl : isiB "tuple" "list" = some false := by decide +kernel
theorem lt2_l : isiL "list" [.ty "list", .ty "tuple"] = some true := by decide +kernel
theorem lt2_t : isiL "tuple" [.ty "list", .ty "tuple"] = some true := by decide +kernel
theorem lt2_i : isiL "int" [.ty "list", .ty "tuple"] = some false := by decide +kernel
theorem lt2_s : isiL "str" [.ty "list", .ty "tuple"] = some false := by decide +kernel
theorem lt2_n : isiL "NoneType" [.ty "list", .ty "tuple"] = some false := by decide +kernel
theorem lt2_b : isiL "bool" [.ty "list", .ty "tuple"] = some false := by decide +kernel
/-- all(list of truths) -/
theorem all_bls {bs : List Bool} {M : Mst} {Q : DK} : dAll [.lst (bs.map D.bl)] M Q = Q (.bl (bs.all id)) M := by
  have h : blsD (bs.map D.bl) = some bs := by
    have := blsD_map (id : Bool → Bool) bs
    simpa using this
  unfold dAll
  simp only [res_lst, h]
section
variable {P : Program} {w : World} {K : PySem.W.Frag} {mg : Str → Option Value} {base : Heap}
theorem fn_void {k : Nat} {f : Addr} {fd : FuncData} {ps : List Str} {p : DSp} (h : ∀ ds M Q E, ¬ p ds M Q E) : FnOk P w K mg base (L2.CX P w) k f fd ps (toSp K p) :=
  ⟨fun _ _ _ _ q => by
    obtain ⟨_, ds, M, Qd, Ed, _, _, _, hp, _⟩ := q
    exact (h _ _ _ _ hp).elim, fun _ _ _ _ _ _ _ _ _ _ _ _ _ hs => by
    obtain ⟨_, ds, M, Qd, Ed, _, _, _, hp, _⟩ := hs
    exact (h _ _ _ _ hp).elim⟩
end
end DL

/-! PairA: pairing wishes with holders; the plain law. -/
namespace Pair
section
variable {κ : Type} [DecidableEq κ]
abbrev Held (κ : Type) := List (κ × Nat)
def look : Held κ → κ → Option Nat
  | [], _ => none
  | (a, j) :: r, k => if a = k then some j else look r k
def putH : Held κ → κ → Nat → Held κ
  | [], k, i => [(k, i)]
  | (a, j) :: r, k, i => if a = k then (a, i) :: r else (a, j) :: putH r k i
def ws_ (ws : List (List κ)) (i : Nat) : List κ := (ws[i]?).getD []
def goF (rec : Held κ → Nat → List κ → Bool × Held κ × List κ) (i : Nat) : List κ → Held κ → List κ → Bool × Held κ × List κ
  | [], hd, tr => (false, hd, tr)
  | k :: ks, hd, tr => if k ∈ tr then goF rec i ks hd tr else
    match look hd k with
    | none => (true, putH hd k i, tr ++ [k])
    | some j => match rec hd j (tr ++ [k]) with
      | (true, hd2, tr2) => (true, putH hd2 k i, tr2)
      | (false, hd2, tr2) => goF rec i ks hd2 tr2
def getsF (ws : List (List κ)) : Nat → Held κ → Nat → List κ → Bool × Held κ × List κ
  | 0, hd, _, tr => (false, hd, tr)
  | n + 1, hd, i, tr => goF (getsF ws n) i (ws_ ws i) hd tr
def keys (hd : Held κ) : List κ := hd.map (·.1)
def cnt (hd : Held κ) (v : Nat) : Nat := hd.countP fun q => decide (q.2 = v)
def left (hd : Held κ) (tr : List κ) : Nat := hd.countP fun q => decide (q.1 ∉ tr)

/-! ### tables -/
theorem look_put (hd : Held κ) (k k2 : κ) (i : Nat) : look (putH hd k i) k2 = if k = k2 then some i else look hd k2 := by
  induction hd with
  | nil => simp [putH, look]
  | cons q r ih =>
    obtain ⟨a, j⟩ := q
    unfold putH
    split
    · next e =>
      subst e
      simp only [look]
      split <;> rfl
    · next e =>
      simp only [look, ih]
      split
      · next e2 => subst e2; rw [if_neg fun z => e z.symm]
      · rfl
theorem look_none {hd : Held κ} {k : κ} : look hd k = none ↔ k ∉ keys hd := by
  induction hd with
  | nil => simp [look, keys]
  | cons q r ih =>
    obtain ⟨a, j⟩ := q
    simp only [look, keys, List.map_cons, List.mem_cons] at ih ⊢
    split
    · next e => subst e; simp
    · next e => rw [ih]; exact ⟨fun h z => z.elim (fun z => e z.symm) h, fun h z => h (.inr z)⟩
theorem look_some {hd : Held κ} {k : κ} {j : Nat} (h : look hd k = some j) : (k, j) ∈ hd := by
  induction hd with
  | nil => cases h
  | cons q r ih =>
    obtain ⟨a, i⟩ := q
    simp only [look] at h
    split at h
    · next e => subst e; cases h; exact List.mem_cons_self ..
    · exact List.mem_cons_of_mem _ (ih h)
theorem look_mem {hd : Held κ} {k : κ} {j : Nat} (hn : (keys hd).Nodup) (h : (k, j) ∈ hd) : look hd k = some j := by
  induction hd with
  | nil => cases h
  | cons q r ih =>
    obtain ⟨a, i⟩ := q
    simp only [keys, List.map_cons, List.nodup_cons] at hn
    rcases List.mem_cons.mp h with e | e
    · cases e; simp [look]
    · have : a ≠ k := fun z => hn.1 (by rw [z]; exact List.mem_map.mpr ⟨_, e, rfl⟩)
      rw [look, if_neg this]
      exact ih hn.2 e
theorem keys_put {hd : Held κ} {k : κ} {i : Nat} : keys (putH hd k i) = if k ∈ keys hd then keys hd else keys hd ++ [k] := by
  induction hd with
  | nil => simp [putH, keys]
  | cons q r ih =>
    obtain ⟨a, j⟩ := q
    unfold putH
    by_cases e : a = k
    · subst e; simp [keys]
    · rw [if_neg e]
      have e' : ¬ k = a := fun z => e z.symm
      show a :: keys (putH r k i) = if k ∈ a :: keys r then a :: keys r else a :: keys r ++ [k]
      rw [ih]
      by_cases z : k ∈ keys r <;> simp [z, e']
theorem nodup_put {hd : Held κ} {k : κ} {i : Nat} (h : (keys hd).Nodup) : (keys (putH hd k i)).Nodup := by
  rw [keys_put]
  split
  · exact h
  · next e => exact List.nodup_append.mpr ⟨h, by simp, fun x hx y hy => by
      simp at hy; subst hy; exact fun z => e (z ▸ hx)⟩
theorem put_new {hd : Held κ} {k : κ} {i : Nat} (h : look hd k = none) : putH hd k i = hd ++ [(k, i)] := by
  induction hd with
  | nil => rfl
  | cons q r ih =>
    obtain ⟨a, j⟩ := q
    simp only [look] at h
    split at h
    · cases h
    · next e => rw [putH, if_neg e, ih h]; rfl
theorem cnt_new {hd : Held κ} {k : κ} {i v : Nat} (h : look hd k = none) : cnt (putH hd k i) v = cnt hd v + if v = i then 1 else 0 := by
  rw [put_new h]
  unfold cnt
  rw [List.countP_append]
  congr 1
  by_cases e : v = i
  · subst e; simp
  · have : ¬ i = v := fun z => e z.symm
    simp [e, this]
theorem cnt_old {hd : Held κ} {k : κ} {i j v : Nat} (h : look hd k = some j) : cnt (putH hd k i) v + (if v = j then 1 else 0) = cnt hd v + if v = i then 1 else 0 := by
  induction hd with
  | nil => cases h
  | cons q r ih =>
    obtain ⟨a, l⟩ := q
    simp only [look] at h
    unfold putH cnt
    split at h
    · next e =>
      cases h
      rw [if_pos e, List.countP_cons, List.countP_cons]
      have a1 : (decide (i = v)) = decide (v = i) := decide_eq_decide.mpr eq_comm
      have a2 : (decide (j = v)) = decide (v = j) := decide_eq_decide.mpr eq_comm
      simp only [a1, a2, decide_eq_true_eq]
      omega
    · next e =>
      have := ih h
      rw [if_neg e, List.countP_cons, List.countP_cons]
      unfold cnt at this
      omega
theorem len_put {hd : Held κ} {k : κ} {i : Nat} : (putH hd k i).length = hd.length + if look hd k = none then 1 else 0 := by
  induction hd with
  | nil => simp [putH, look]
  | cons q r ih =>
    obtain ⟨a, l⟩ := q
    unfold putH look
    by_cases e : a = k
    · simp [e]
    · rw [if_neg e, if_neg e]
      simp only [List.length_cons, ih]
      omega
theorem mem_put {hd : Held κ} {k k2 : κ} {i j : Nat} (h : (k2, j) ∈ putH hd k i) : (k2, j) = (k, i) ∨ (k2, j) ∈ hd := by
  induction hd with
  | nil => simp [putH] at h; exact .inl (by simp [h])
  | cons q r ih =>
    obtain ⟨a, l⟩ := q
    unfold putH at h
    split at h
    · next e =>
      rcases List.mem_cons.mp h with h | h
      · exact .inl (by rw [h, e])
      · exact .inr (List.mem_cons_of_mem _ h)
    · rcases List.mem_cons.mp h with h | h
      · exact .inr (by rw [h]; exact List.mem_cons_self ..)
      · exact (ih h).imp id fun z => List.mem_cons_of_mem _ z
theorem left_mono {hd : Held κ} {tr tr2 : List κ} (h : ∀ k ∈ tr, k ∈ tr2) : left hd tr2 ≤ left hd tr := by
  unfold left
  exact List.countP_mono_left fun q _ hq => by
    simp only [decide_eq_true_eq] at hq ⊢
    exact fun z => hq (h _ z)
theorem left_less {hd : Held κ} {tr : List κ} {k : κ} {j : Nat} (h : look hd k = some j) (hk : k ∉ tr) : left hd (tr ++ [k]) < left hd tr := by
  induction hd with
  | nil => cases h
  | cons q r ih =>
    obtain ⟨a, l⟩ := q
    simp only [look] at h
    unfold left
    rw [List.countP_cons, List.countP_cons]
    have m := left_mono (hd := r) (tr := tr) (tr2 := tr ++ [k]) fun x hx => List.mem_append_left _ hx
    unfold left at m ih
    split at h
    · next e =>
      subst e
      have e1 : decide (a ∉ tr ++ [a]) = false := by simp
      have e2 : decide (a ∉ tr) = true := by simpa using hk
      simp only [e1, e2, if_true, Bool.false_eq_true, if_false]
      omega
    · next e =>
      have := ih h
      have e3 : decide (a ∉ tr ++ [k]) = decide (a ∉ tr) := by simp [e]
      simp only [e3]
      omega

/-! ### one search -/
/-- every holder of a wish of B is held by a wish of B -/
def Closed (ws : List (List κ)) (hd : Held κ) (B : Nat → Prop) : Prop := ∀ b, B b → ∀ k ∈ ws_ ws b, ∃ j, look hd k = some j ∧ B j
structure Fail (ws : List (List κ)) (hd : Held κ) (ks : List κ) (tr : List κ) (hd' : Held κ) (tr' : List κ) : Prop where
  he : hd' = hd
  sub : ∀ k ∈ tr, k ∈ tr'
  all : ∀ k ∈ ks, k ∈ tr'
  cl : ∀ k ∈ tr', k ∈ tr ∨ ∃ j, look hd k = some j ∧ ∀ k2 ∈ ws_ ws j, k2 ∈ tr'
structure Good (ws : List (List κ)) (hd : Held κ) (ks : List κ) (i : Nat) (tr : List κ) (hd' : Held κ) : Prop where
  nd : (keys hd').Nodup
  old : ∀ k ∈ tr, look hd' k = look hd k
  cnt : ∀ v, cnt hd' v = cnt hd v + if v = i then 1 else 0
  fit : ∀ k j, (k, j) ∈ hd' → (k, j) ∈ hd ∨ k ∈ ws_ ws j ∨ (j = i ∧ k ∈ ks)
  len : hd'.length = hd.length + 1
  far : ∀ B, Closed ws hd B → (∃ k ∈ ks, ∀ j, look hd k = some j → ¬ B j) ∧ ∀ k j, look hd k = some j → B j → look hd' k = some j
  keep : ∀ k ∈ keys hd, k ∈ keys hd'
def Out (ws : List (List κ)) (hd : Held κ) (ks : List κ) (i : Nat) (tr : List κ) (o : Bool × Held κ × List κ) : Prop :=
  (o.1 = false ∧ Fail ws hd ks tr o.2.1 o.2.2) ∨ (o.1 = true ∧ Good ws hd ks i tr o.2.1 ∧ ∀ k ∈ tr, k ∈ o.2.2)
theorem go_out {ws : List (List κ)} {n i : Nat} {rec : Held κ → Nat → List κ → Bool × Held κ × List κ} (hrec : ∀ hd j tr, (keys hd).Nodup → left hd tr < n → Out ws hd (ws_ ws j) j tr (rec hd j tr)) :
    ∀ (ks : List κ) (hd : Held κ) (tr : List κ), (keys hd).Nodup → left hd tr < n + 1 → Out ws hd ks i tr (goF rec i ks hd tr)
  | [], hd, tr, nd, hl => .inl ⟨rfl, rfl, fun _ h => h, fun _ h => (by cases h), fun _ h => .inl h⟩
  | k :: ks, hd, tr, nd, hl => by
    unfold goF
    by_cases hk : k ∈ tr
    · rw [if_pos hk]
      rcases go_out hrec ks hd tr nd hl with ⟨e, F⟩ | ⟨e, S, s⟩
      · refine .inl ⟨e, F.he, F.sub, fun x hx => ?_, F.cl⟩
        rcases List.mem_cons.mp hx with rfl | hx
        · exact F.sub _ hk
        · exact F.all _ hx
      · refine .inr ⟨e, ⟨S.nd, S.old, S.cnt, fun a j h => ?_, S.len, fun B hB => ?_, S.keep⟩, s⟩
        · rcases S.fit a j h with h | h | h
          · exact .inl h
          · exact .inr (.inl h)
          · exact .inr (.inr ⟨h.1, List.mem_cons_of_mem _ h.2⟩)
        · obtain ⟨⟨x, x1, x2⟩, y⟩ := S.far B hB
          exact ⟨⟨x, List.mem_cons_of_mem _ x1, x2⟩, y⟩
    · rw [if_neg hk]
      cases el : look hd k with
      | none =>
        refine .inr ⟨rfl, ⟨nodup_put nd, fun x hx => ?_, fun v => cnt_new el, fun x j h => ?_, by simp [len_put, el], fun B hB => ⟨⟨k, List.mem_cons_self .., fun j h => by rw [el] at h; cases h⟩, fun x j h hb => ?_⟩, fun x hx => ?_⟩, fun x hx => List.mem_append_left _ hx⟩
        · show look (putH hd k i) x = _
          rw [look_put, if_neg fun e : k = x => hk (by rw [e]; exact hx)]
        · rcases mem_put h with h | h
          · cases h; exact .inr (.inr ⟨rfl, List.mem_cons_self ..⟩)
          · exact .inl h
        · show look (putH hd k i) x = _
          rw [look_put, if_neg fun e : k = x => (by rw [e, h] at el; cases el)]
          exact h
        · show x ∈ keys (putH hd k i)
          rw [keys_put]; split
          · exact hx
          · exact List.mem_append_left _ hx
      | some j =>
        have hl2 : left hd (tr ++ [k]) < n := by have := left_less el hk; omega
        have h := hrec hd j (tr ++ [k]) nd hl2
        rcases hr : rec hd j (tr ++ [k]) with ⟨b, hd2, tr2⟩
        rw [hr] at h
        simp only [hr]
        have sub1 : ∀ x ∈ tr, x ∈ tr ++ [k] := fun x hx => List.mem_append_left _ hx
        rcases h with ⟨e, F⟩ | ⟨e, S, s⟩
        · cases e
          obtain ⟨hde, sub, all, cl⟩ := F
          simp only at hde sub all cl
          subst hde
          have hl3 : left hd2 tr2 < n + 1 := by have := left_mono (hd := hd2) sub; omega
          have ktr : k ∈ tr2 := sub _ (by simp)
          show Out ws hd2 (k :: ks) i tr (goF rec i ks hd2 tr2)
          rcases go_out hrec ks hd2 tr2 nd hl3 with ⟨e, F⟩ | ⟨e, S, s⟩
          · refine .inl ⟨e, F.he, fun x hx => F.sub _ (sub _ (sub1 _ hx)), fun x hx => ?_, fun x hx => ?_⟩
            · rcases List.mem_cons.mp hx with rfl | hx
              · exact F.sub _ ktr
              · exact F.all _ hx
            · rcases F.cl x hx with h | h
              · rcases cl x h with h | ⟨j2, h1, h2⟩
                · rcases List.mem_append.mp h with h | h
                  · exact .inl h
                  · simp at h; subst h
                    exact .inr ⟨j, el, fun y hy => F.sub _ (all _ hy)⟩
                · exact .inr ⟨j2, h1, fun y hy => F.sub _ (h2 _ hy)⟩
              · exact .inr h
          · refine .inr ⟨e, ⟨S.nd, fun x hx => S.old x (sub _ (sub1 _ hx)), S.cnt, fun a j h => ?_, S.len, fun B hB => ?_, S.keep⟩, fun x hx => s _ (sub _ (sub1 _ hx))⟩
            · rcases S.fit a j h with h | h | h
              · exact .inl h
              · exact .inr (.inl h)
              · exact .inr (.inr ⟨h.1, List.mem_cons_of_mem _ h.2⟩)
            · obtain ⟨⟨x, x1, x2⟩, y⟩ := S.far B hB
              exact ⟨⟨x, List.mem_cons_of_mem _ x1, x2⟩, y⟩
        · cases e
          obtain ⟨nd2, old, hc, fit, len, far, keep⟩ := S
          simp only at nd2 old hc fit len far keep s
          have el2 : look hd2 k = some j := (old k (by simp)).trans el
          refine .inr ⟨rfl, ⟨nodup_put nd2, fun x hx => ?_, fun v => ?_, fun x j2 h => ?_, ?_, fun B hB => ?_, fun x hx => ?_⟩, fun x hx => s _ (sub1 _ hx)⟩
          · show look (putH hd2 k i) x = _
            rw [look_put, if_neg fun e : k = x => hk (by rw [e]; exact hx)]
            exact old x (sub1 _ hx)
          · show cnt (putH hd2 k i) v = _
            have := cnt_old (v := v) (i := i) el2
            have := hc v
            omega
          · rcases mem_put h with h | h
            · cases h; exact .inr (.inr ⟨rfl, List.mem_cons_self ..⟩)
            · rcases fit x j2 h with h | h | h
              · exact .inl h
              · exact .inr (.inl h)
              · exact .inr (.inl (by rw [h.1]; exact h.2))
          · show (putH hd2 k i).length = _
            rw [len_put, el2]; simpa using len
          · obtain ⟨⟨x, x1, x2⟩, y⟩ := far B hB
            have nb : ¬ B j := fun hb => by
              obtain ⟨j2, q1, q2⟩ := hB j hb x x1
              exact x2 j2 q1 q2
            refine ⟨⟨k, List.mem_cons_self .., fun j2 h => ?_⟩, fun x j2 h hb => ?_⟩
            · rw [el] at h; cases h; exact nb
            · show look (putH hd2 k i) x = _
              rw [look_put, if_neg fun e : k = x => (by rw [← e, el] at h; cases h; exact nb hb)]
              exact y x j2 h hb
          · show x ∈ keys (putH hd2 k i)
            rw [keys_put]; split
            · exact keep x hx
            · exact List.mem_append_left _ (keep x hx)
theorem gets_out (ws : List (List κ)) : ∀ (n : Nat) (hd : Held κ) (i : Nat) (tr : List κ), (keys hd).Nodup → left hd tr < n → Out ws hd (ws_ ws i) i tr (getsF ws n hd i tr)
  | 0, _, _, _, _, h => absurd h (Nat.not_lt_zero _)
  | n + 1, hd, i, tr, nd, h => go_out (gets_out ws n) (ws_ ws i) hd tr nd h

/-! ### all searches -/
def heldF (ws : List (List κ)) (f : Nat) : List Nat → Held κ → Held κ
  | [], hd => hd
  | i :: is, hd => heldF ws f is (getsF ws f hd i []).2.1
structure Inv (ws : List (List κ)) (hd : Held κ) (i : Nat) : Prop where
  nd : (keys hd).Nodup
  fit : ∀ k j, (k, j) ∈ hd → k ∈ ws_ ws j
  one : ∀ v, cnt hd v ≤ 1
  new : ∀ v, i ≤ v → cnt hd v = 0
  len : hd.length ≤ i
  band : ∃ B, Closed ws hd B ∧ ∀ v, v < i → cnt hd v = 0 → B v
theorem inv0 (ws : List (List κ)) : Inv ws [] 0 := ⟨by simp [keys], fun _ _ h => (by cases h), fun _ => by simp [cnt], fun _ _ => by simp [cnt], Nat.le_refl _, fun _ => False, fun _ h => h.elim, fun v h => by omega⟩
theorem inv_step {ws : List (List κ)} {hd : Held κ} {i f : Nat} (I : Inv ws hd i) (hf : i < f) : Inv ws (getsF ws f hd i []).2.1 (i + 1) := by
  have hl : left hd [] < f := Nat.lt_of_le_of_lt (Nat.le_trans List.countP_le_length I.len) hf
  obtain ⟨B, hB, hb⟩ := I.band
  rcases gets_out ws f hd i [] I.nd hl with ⟨_, F⟩ | ⟨_, S, _⟩
  · rw [F.he]
    refine ⟨I.nd, I.fit, I.one, fun v hv => I.new v (by omega), by have := I.len; omega, fun v => B v ∨ v = i ∨ ∃ k ∈ (getsF ws f hd i []).2.2, look hd k = some v, ?_, fun v hv h0 => ?_⟩
    · have key : ∀ k ∈ (getsF ws f hd i []).2.2, ∃ j, look hd k = some j ∧ (B j ∨ j = i ∨ ∃ k ∈ (getsF ws f hd i []).2.2, look hd k = some j) ∧ ∀ k2 ∈ ws_ ws j, k2 ∈ (getsF ws f hd i []).2.2 := fun k hk => by
        rcases F.cl k hk with h | ⟨j, h1, h2⟩
        · cases h
        · exact ⟨j, h1, .inr (.inr ⟨k, hk, h1⟩), h2⟩
      rintro b (h | h | ⟨k0, h0, h1⟩) k hk
      · obtain ⟨j, q1, q2⟩ := hB b h k hk
        exact ⟨j, q1, .inl q2⟩
      · subst h
        obtain ⟨j, q1, q2, _⟩ := key k (F.all k hk)
        exact ⟨j, q1, q2⟩
      · obtain ⟨j0, e0, _, all⟩ := key k0 h0
        rw [h1] at e0; cases e0
        obtain ⟨j, q1, q2, _⟩ := key k (all k hk)
        exact ⟨j, q1, q2⟩
    · by_cases e : v = i
      · exact .inr (.inl e)
      · exact .inl (hb v (by omega) h0)
  · have h0 := I.new i (Nat.le_refl _)
    refine ⟨S.nd, fun k j h => ?_, fun v => ?_, fun v hv => ?_, by rw [S.len]; have := I.len; omega, B, fun b h k hk => ?_, fun v hv hc => ?_⟩
    · rcases S.fit k j h with h | h | h
      · exact I.fit k j h
      · exact h
      · rw [h.1]; exact h.2
    · rw [S.cnt]; have := I.one v; split
      · next e => rw [e, h0]; omega
      · omega
    · rw [S.cnt, I.new v (by omega), if_neg (by omega)]
    · obtain ⟨j, q1, q2⟩ := hB b h k hk
      exact ⟨j, (S.far B hB).2 k j q1 q2, q2⟩
    · rw [S.cnt] at hc
      split at hc
      · omega
      · exact hb v (by omega) (by omega)
theorem inv_all {ws : List (List κ)} {f : Nat} : ∀ (m i : Nat) (hd : Held κ), Inv ws hd i → i + m ≤ f → Inv ws (heldF ws f (List.range' i m) hd) (i + m)
  | 0, i, hd, I, _ => I
  | m + 1, i, hd, I, h => by
    rw [List.range'_succ]
    have := inv_all (f := f) m (i + 1) _ (inv_step (f := f) I (by omega)) (by omega)
    rw [show i + (m + 1) = i + 1 + m by omega]
    exact this

/-! ### matchings -/
inductive Mt : List (List κ) → List κ → Nat → Prop
  | nil {tk} : Mt [] tk 0
  | skip {w ws tk n} : Mt ws tk n → Mt (w :: ws) tk n
  | take {w ws tk n h} : h ∈ w → h ∉ tk → Mt ws (tk ++ [h]) n → Mt (w :: ws) tk (n + 1)
def IsMost (ws : List (List κ)) (tk : List κ) (r : Nat) : Prop := Mt ws tk r ∧ ∀ n, Mt ws tk n → n ≤ r
theorem IsMost.eq {ws ws' : List (List κ)} {tk tk' : List κ} {r r' : Nat} (a : IsMost ws tk r) (b : IsMost ws' tk' r') (h : ∀ n, Mt ws tk n → Mt ws' tk' n) (g : ∀ n, Mt ws' tk' n → Mt ws tk n) : r = r' :=
  Nat.le_antisymm (b.2 _ (h _ a.1)) (a.2 _ (g _ b.1))
theorem Mt.mono {ws : List (List κ)} {tk : List κ} {n : Nat} (h : Mt ws tk n) : ∀ {tk' : List κ}, (∀ x ∈ tk', x ∈ tk) → Mt ws tk' n := by
  induction h with
  | nil => intro tk' _; exact .nil
  | skip _ ih => intro tk' hs; exact .skip (ih hs)
  | @take w ws tk n x h1 h2 _ ih => intro tk' hs; exact .take h1 (fun z => h2 (hs _ z)) (ih fun y hy => by
      rcases List.mem_append.mp hy with hy | hy
      · exact List.mem_append_left _ (hs _ hy)
      · exact List.mem_append_right _ hy)
theorem Mt.perm {ws ws' : List (List κ)} (p : List.Perm ws ws') : ∀ {tk : List κ} {n : Nat}, Mt ws tk n → Mt ws' tk n := by
  induction p with
  | nil => intro tk n h; exact h
  | cons w _ ih =>
    intro tk n h
    cases h with
    | skip h => exact .skip (ih h)
    | take h1 h2 h => exact .take h1 h2 (ih h)
  | swap a b l =>
    intro tk n h
    cases h with
    | skip h =>
      cases h with
      | skip h => exact .skip (.skip h)
      | take h1 h2 h => exact .take h1 h2 (.skip h)
    | take h1 h2 h =>
      cases h with
      | skip h => exact .skip (.take h1 h2 h)
      | @take _ _ _ _ y g1 g2 g =>
        refine .take g1 (fun z => g2 (List.mem_append_left _ z)) (.take h1 (fun z => ?_) (g.mono fun x hx => ?_))
        · rcases List.mem_append.mp z with z | z
          · exact h2 z
          · simp at z; subst z; exact g2 (by simp)
        · simp at hx ⊢; rcases hx with h | h | h
          · exact .inl h
          · exact .inr (.inr h)
          · exact .inr (.inl h)
  | trans _ _ i1 i2 => intro tk n h; exact i2 (i1 h)
theorem Mt.rev {ws : List (List κ)} : ∀ {tk : List κ} {n : Nat}, Mt ws tk n → Mt (ws.map List.reverse) tk n := by
  intro tk n h
  induction h with
  | nil => exact .nil
  | skip _ ih => exact .skip ih
  | take h1 h2 _ ih => exact .take (List.mem_reverse.mpr h1) h2 ih
theorem map_rev_rev (ws : List (List κ)) : (ws.map List.reverse).map List.reverse = ws := by
  rw [List.map_map]
  conv => rhs; rw [← List.map_id ws]
  congr 1
  funext w; simp
/-- no matching has more -/
theorem Mt.le {B : Nat → Bool} {N : List κ} {ws : List (List κ)} {tk : List κ} {r : Nat} (h : Mt ws tk r) : ∀ (s : Nat), (∀ v w, ws[v]? = some w → B (s + v) = true → ∀ k ∈ w, k ∈ N) →
    r ≤ (List.range' s ws.length).countP (fun v => !B v) + N.countP fun k => decide (k ∉ tk) := by
  induction h with
  | nil => intro s _; exact Nat.zero_le _
  | @skip w ws tk n _ ih =>
    intro s hN
    have := ih (s + 1) fun v x hv hb => hN (v + 1) x (by simpa using hv) (by rw [show s + (v + 1) = s + 1 + v by omega]; exact hb)
    rw [List.length_cons, List.range'_succ, List.countP_cons]
    omega
  | @take w ws tk n x h1 h2 _ ih =>
    intro s hN
    have q := ih (s + 1) fun v y hv hb => hN (v + 1) y (by simpa using hv) (by rw [show s + (v + 1) = s + 1 + v by omega]; exact hb)
    rw [List.length_cons, List.range'_succ, List.countP_cons]
    have m1 : ∀ N : List κ, N.countP (fun k => decide (k ∉ tk ++ [x])) ≤ N.countP fun k => decide (k ∉ tk) := fun N => List.countP_mono_left fun k _ hk => by simp at hk ⊢; exact hk.1
    cases hb : B s with
    | false => have := m1 N; simp only [hb, Bool.not_false, if_true]; omega
    | true =>
      have hx : x ∈ N := hN 0 w (by simp) (by simpa using hb) x h1
      have m2 : N.countP (fun k => decide (k ∉ tk ++ [x])) + 1 ≤ N.countP fun k => decide (k ∉ tk) := by
        clear q hN ih
        induction N with
        | nil => cases hx
        | cons a N ih =>
          rw [List.countP_cons, List.countP_cons]
          rcases List.mem_cons.mp hx with rfl | hx
          · have e1 : decide (x ∉ tk ++ [x]) = false := by simp
            have e2 : decide (x ∉ tk) = true := by simpa using h2
            have := m1 N
            simp only [e1, e2, if_true, Bool.false_eq_true, if_false]; omega
          · have := ih hx
            by_cases z : a ∈ tk
            · have e1 : decide (a ∉ tk ++ [x]) = false := by simp [z]
              have e2 : decide (a ∉ tk) = false := by simpa using z
              simp only [e1, e2, if_true, Bool.false_eq_true, if_false]; omega
            · by_cases z2 : a = x
              · subst z2
                have e1 : decide (a ∉ tk ++ [a]) = false := by simp
                have e2 : decide (a ∉ tk) = true := by simpa using z
                simp only [e1, e2, if_true, Bool.false_eq_true, if_false]; omega
              · have e1 : decide (a ∉ tk ++ [x]) = true := by simp [z, z2]
                have e2 : decide (a ∉ tk) = true := by simpa using z
                simp only [e1, e2, if_true, Bool.false_eq_true, if_false]; omega
      simp only [hb, Bool.not_true, Bool.false_eq_true, if_false]; omega
theorem nodup_le {α : Type} [DecidableEq α] : ∀ {l m : List α}, l.Nodup → (∀ x ∈ l, x ∈ m) → l.length ≤ m.length
  | [], _, _, _ => Nat.zero_le _
  | a :: l, m, nd, h => by
    have ha := h a (List.mem_cons_self ..)
    rw [List.nodup_cons] at nd
    have := nodup_le (l := l) (m := m.erase a) nd.2 fun x hx => (List.mem_erase_of_ne fun e => nd.1 (by rw [← e]; exact hx)).mpr (h x (List.mem_cons_of_mem _ hx))
    rw [List.length_erase_of_mem ha] at this
    have : 0 < m.length := List.length_pos_of_mem ha
    rw [List.length_cons]; omega
theorem cnt_pos {hd : Held κ} {v : Nat} (h : cnt hd v ≠ 0) : ∃ k, (k, v) ∈ hd := by
  unfold cnt at h
  obtain ⟨q, h1, h2⟩ := List.countP_pos_iff.mp (Nat.pos_of_ne_zero h)
  simp at h2
  exact ⟨q.1, by rw [← h2]; exact h1⟩
theorem Inv.le {ws : List (List κ)} {hd : Held κ} {n : Nat} (I : Inv ws hd n) (hn : n = ws.length) {r : Nat} (h : Mt ws [] r) : r ≤ hd.length := by
  obtain ⟨B, hB, hb⟩ := I.band
  haveI : ∀ v, Decidable (B v) := fun v => Classical.propDecidable _
  have q : r ≤ (List.range' 0 ws.length).countP (fun v => !decide (B v)) + ((hd.filter fun q => decide (B q.2)).map (·.1)).countP (fun k => decide (k ∉ [])) := h.le (B := fun v => decide (B v)) (N := (hd.filter fun q => decide (B q.2)).map (·.1)) 0 fun v w hv hb k hk => by
    simp only [Nat.zero_add, decide_eq_true_eq] at hb
    obtain ⟨j, h1, h2⟩ := hB v hb k (by simpa [ws_, hv] using hk)
    exact List.mem_map.mpr ⟨(k, j), List.mem_filter.mpr ⟨look_some h1, by simpa using h2⟩, rfl⟩
  have c1 : ((hd.filter fun q => decide (B q.2)).map (·.1)).countP (fun k => decide (k ∉ [])) ≤ (hd.filter fun q => decide (B q.2)).length := by
    refine Nat.le_trans List.countP_le_length (by simp)
  have c2 : (List.range' 0 ws.length).countP (fun v => !decide (B v)) ≤ (hd.filter fun q => !decide (B q.2)).length := by
    rw [List.countP_eq_length_filter]
    refine Nat.le_trans (nodup_le (m := (hd.filter fun q => !decide (B q.2)).map (·.2)) (List.Nodup.sublist List.filter_sublist (List.nodup_range' ..)) fun v hv => ?_) (by simp)
    obtain ⟨h1, h2⟩ := List.mem_filter.mp hv
    have hv : v < n := by rw [hn]; simp [List.mem_range'] at h1; omega
    have nb : ¬ B v := by simpa using h2
    obtain ⟨k, hk⟩ := cnt_pos (hd := hd) (v := v) fun z => nb (hb v hv z)
    exact List.mem_map.mpr ⟨(k, v), List.mem_filter.mpr ⟨hk, by simpa using nb⟩, rfl⟩
  have c3 : (hd.filter fun q => decide (B q.2)).length + (hd.filter fun q => !decide (B q.2)).length = hd.length := by
    rw [← List.countP_eq_length_filter, ← List.countP_eq_length_filter]
    have := List.length_eq_countP_add_countP (fun q : κ × Nat => decide (B q.2)) (l := hd)
    rw [this]
    congr 1
    exact List.countP_congr fun x _ => by simp
  omega
theorem mt_of (ws : List (List κ)) : ∀ (s : Nat) (hd : Held κ) (tk : List κ), (keys hd).Nodup → (∀ v, cnt hd v ≤ 1) → (∀ k j, (k, j) ∈ hd → k ∉ tk ∧ s ≤ j ∧ ∃ w, ws[j - s]? = some w ∧ k ∈ w) → Mt ws tk hd.length := by
  induction ws with
  | nil =>
    intro s hd tk _ _ h
    cases hd with
    | nil => exact .nil
    | cons q hd => obtain ⟨_, _, w, z, _⟩ := h q.1 q.2 (List.mem_cons_self ..); simp at z
  | cons w ws ih =>
    intro s hd tk nd one h
    have hl : hd.length = (hd.filter fun q => !decide (q.2 = s)).length + cnt hd s := by
      have := List.length_eq_countP_add_countP (fun q : κ × Nat => decide (q.2 = s)) (l := hd)
      rw [this, ← List.countP_eq_length_filter]
      unfold cnt
      rw [Nat.add_comm]
      congr 1
      exact List.countP_congr fun x _ => by simp
    have sub : ∀ q ∈ hd.filter (fun q => !decide (q.2 = s)), q ∈ hd ∧ q.2 ≠ s := fun q hq => by
      obtain ⟨a, b⟩ := List.mem_filter.mp hq
      exact ⟨a, by simpa using b⟩
    have nd2 : (keys (hd.filter fun q => !decide (q.2 = s))).Nodup := List.Nodup.sublist (List.Sublist.map _ List.filter_sublist) nd
    have one2 : ∀ v, cnt (hd.filter fun q => !decide (q.2 = s)) v ≤ 1 := fun v => Nat.le_trans (List.Sublist.countP_le List.filter_sublist) (one v)
    have fit2 : ∀ k j, (k, j) ∈ hd.filter (fun q => !decide (q.2 = s)) → s + 1 ≤ j ∧ ∃ w, ws[j - (s + 1)]? = some w ∧ k ∈ w := fun k j hq => by
      obtain ⟨a, b⟩ := sub _ hq
      obtain ⟨_, h2, x, h3, h4⟩ := h k j a
      simp only at b
      have e : j - s = (j - (s + 1)) + 1 := by omega
      rw [e] at h3
      exact ⟨by omega, x, by simpa using h3, h4⟩
    by_cases e : cnt hd s = 0
    · rw [hl, e]
      exact .skip (ih (s + 1) _ tk nd2 one2 fun k j hq => ⟨(h k j (sub _ hq).1).1, fit2 k j hq⟩)
    · obtain ⟨x, hx⟩ := cnt_pos e
      have : cnt hd s = 1 := by have := one s; omega
      rw [hl, this]
      obtain ⟨h1, _, y, h3, h4⟩ := h x s hx
      simp at h3; subst h3
      refine .take h4 h1 (ih (s + 1) _ _ nd2 one2 fun k j hq => ⟨fun z => ?_, fit2 k j hq⟩)
      rcases List.mem_append.mp z with z | z
      · exact (h k j (sub _ hq).1).1 z
      · simp at z; subst z
        have e1 := look_mem nd hx
        have e2 := look_mem nd (sub _ hq).1
        rw [e1] at e2; cases e2
        exact (sub _ hq).2 rfl
theorem Inv.most {ws : List (List κ)} {hd : Held κ} {n : Nat} (I : Inv ws hd n) (hn : n = ws.length) : IsMost ws [] hd.length := by
  refine ⟨mt_of ws 0 hd [] I.nd I.one fun k j h => ⟨by simp, Nat.zero_le _, ?_⟩, fun r h => I.le hn h⟩
  have hf := I.fit k j h
  unfold ws_ at hf
  cases e : ws[j]? with
  | none => rw [e] at hf; cases hf
  | some w => rw [e] at hf; exact ⟨w, by simpa using e, hf⟩
end
end Pair

/-! PairB: the pairing's defs, their readings. -/
namespace Pair
open PySem L2 DL
instance memKey (k : Key) (tr : List Key) : Decidable (k ∈ tr) := @List.instDecidableMemOfLawfulBEq Key instBEqOfDecidableEq inferInstance k tr
def hdD (hd : Held Key) : List (Key × D) := hd.map fun q => (q.1, D.int q.2)
def trD (tr : List Key) : List (Key × D) := tr.map fun k => (k, D.bl true)
def wD (w : List Key) : D := .lst (w.map kD)
def wsD (ws : List (List Key)) : D := .lst (ws.map wD)
@[simp] theorem keyD_kD (k : Key) : keyD (kD k) = some k := by cases k <;> rfl
theorem val_hd (hd : Held Key) (k : Key) : valD (hdD hd) k = (look hd k).map fun j : Nat => D.int (j : Int) := by
  induction hd with
  | nil => rfl
  | cons q r ih =>
    obtain ⟨a, j⟩ := q
    unfold look
    by_cases e : a = k
    · rw [if_pos e]; simp [hdD, valD, e]
    · rw [if_neg e, ← ih]; simp [hdD, valD, e]
theorem putD_map {κ : Type} [DecidableEq κ] {kvs : List (κ × D)} {k : κ} {v : D} (h : k ∉ kvs.map (·.1)) : putD kvs k v = kvs ++ [(k, v)] := by
  unfold putD
  rw [if_neg]
  intro z
  obtain ⟨q, h1, h2⟩ := List.any_eq_true.mp z
  exact h (List.mem_map.mpr ⟨q, h1, by simpa using h2⟩)
theorem putD_cons {κ : Type} [DecidableEq κ] {kvs : List (κ × D)} {a k : κ} {u v : D} (h : a ≠ k) : putD ((a, u) :: kvs) k v = (a, u) :: putD kvs k v := by
  unfold putD
  simp only [List.any_cons, decide_eq_false h, Bool.false_or]
  split
  · simp [h]
  · rfl
theorem map_off {κ : Type} [DecidableEq κ] {kvs : List (κ × D)} {k : κ} {v : D} (h : k ∉ kvs.map (·.1)) : (kvs.map fun kv => if kv.1 = k then (kv.1, v) else kv) = kvs := by
  conv => rhs; rw [← List.map_id kvs]
  apply List.map_congr_left
  intro q hq
  rw [if_neg fun e => h (List.mem_map.mpr ⟨q, hq, e⟩)]; rfl
theorem keys_hd (hd : Held Key) : (hdD hd).map (·.1) = keys hd := by simp [hdD, keys]
theorem put_hd {hd : Held Key} {k : Key} {i : Nat} (nd : (keys hd).Nodup) : putD (hdD hd) k (.int i) = hdD (putH hd k i) := by
  induction hd with
  | nil => rfl
  | cons q r ih =>
    obtain ⟨a, j⟩ := q
    simp only [keys, List.map_cons, List.nodup_cons] at nd
    unfold putH
    by_cases e : a = k
    · subst e
      rw [if_pos rfl]
      have : a ∉ (hdD r).map (·.1) := by rw [keys_hd]; exact nd.1
      show putD ((a, D.int j) :: hdD r) a (.int i) = (a, D.int i) :: hdD r
      unfold putD
      rw [if_pos (by simp), List.map_cons, if_pos rfl, map_off this]
    · rw [if_neg e]
      show putD ((a, D.int j) :: hdD r) k (.int i) = (a, D.int j) :: hdD (putH r k i)
      rw [putD_cons e, ih nd.2]
theorem val_tr (tr : List Key) (k : Key) : (valD (trD tr) k).isSome = decide (k ∈ tr) := by
  induction tr with
  | nil => rfl
  | cons a r ih =>
    by_cases e : a = k
    · simp [trD, valD, e]
    · have e' : ¬ k = a := fun z => e z.symm
      have : valD (trD (a :: r)) k = valD (trD r) k := by simp [trD, valD, e]
      rw [this, ih]; simp [e']
theorem put_tr {tr : List Key} {k : Key} (h : k ∉ tr) : putD (trD tr) k (.bl true) = trD (tr ++ [k]) := by
  rw [putD_map (by simpa [trD] using h)]; simp [trD]

/-! ### gets_holder -/
structure Okk (ws : List (List Key)) (hd : Held Key) (tr : List Key) : Prop where
  nd : (keys hd).Nodup
  val : ∀ k j, (k, j) ∈ hd → j < ws.length
  ksub : ∀ k ∈ keys hd, k ∈ ws.flatten
  tnd : tr.Nodup
  tsub : ∀ k ∈ tr, k ∈ ws.flatten
theorem Okk.add {ws : List (List Key)} {hd : Held Key} {tr : List Key} {k : Key} (h : Okk ws hd tr) (hk : k ∉ tr) (hw : k ∈ ws.flatten) : Okk ws hd (tr ++ [k]) :=
  ⟨h.nd, h.val, h.ksub, List.nodup_append.mpr ⟨h.tnd, by simp, fun x hx y hy => by simp at hy; subst hy; exact fun z => hk (z ▸ hx)⟩, fun x hx => by
    rcases List.mem_append.mp hx with hx | hx
    · exact h.tsub _ hx
    · simp at hx; subst hx; exact hw⟩
theorem Okk.put {ws : List (List Key)} {hd : Held Key} {tr : List Key} {k : Key} {i : Nat} (h : Okk ws hd tr) (hi : i < ws.length) (hw : k ∈ ws.flatten) : Okk ws (putH hd k i) tr :=
  ⟨nodup_put h.nd, fun a j q => by
    rcases mem_put q with q | q
    · cases q; exact hi
    · exact h.val _ _ q, fun x hx => by
    rw [keys_put] at hx
    split at hx
    · exact h.ksub _ hx
    · rcases List.mem_append.mp hx with hx | hx
      · exact h.ksub _ hx
      · simp at hx; subst hx; exact hw, h.tnd, h.tsub⟩
theorem ws_sub {ws : List (List Key)} {i : Nat} {k : Key} (h : k ∈ ws_ ws i) : k ∈ ws.flatten := by
  unfold ws_ at h
  cases e : ws[i]? with
  | none => rw [e] at h; cases h
  | some w => rw [e] at h; exact List.mem_flatten.mpr ⟨w, List.mem_of_getElem? e, h⟩
theorem go_okk {ws : List (List Key)} {i : Nat} {rec : Held Key → Nat → List Key → Bool × Held Key × List Key} (hi : i < ws.length) (hrec : ∀ hd j tr, Okk ws hd tr → j < ws.length → Okk ws (rec hd j tr).2.1 (rec hd j tr).2.2) :
    ∀ (ks : List Key) (hd : Held Key) (tr : List Key), (∀ k ∈ ks, k ∈ ws.flatten) → Okk ws hd tr → Okk ws (goF rec i ks hd tr).2.1 (goF rec i ks hd tr).2.2
  | [], hd, tr, _, h => h
  | k :: ks, hd, tr, hs, h => by
    unfold goF
    have hk := hs k (List.mem_cons_self ..)
    have hr := go_okk hi hrec ks
    by_cases z : k ∈ tr
    · rw [if_pos z]; exact hr hd tr (fun x hx => hs x (List.mem_cons_of_mem _ hx)) h
    · rw [if_neg z]
      cases el : look hd k with
      | none => exact (h.add z hk).put hi hk
      | some j =>
        have hj := h.val _ _ (look_some el)
        have h2 := hrec hd j (tr ++ [k]) (h.add z hk) hj
        rcases hr2 : rec hd j (tr ++ [k]) with ⟨b, hd2, tr2⟩
        rw [hr2] at h2
        simp only [hr2]
        cases b with
        | true => exact h2.put hi hk
        | false => exact hr hd2 tr2 (fun x hx => hs x (List.mem_cons_of_mem _ hx)) h2
theorem gets_okk (ws : List (List Key)) : ∀ (n : Nat) (hd : Held Key) (i : Nat) (tr : List Key), Okk ws hd tr → i < ws.length → Okk ws (getsF ws n hd i tr).2.1 (getsF ws n hd i tr).2.2
  | 0, _, _, _, h, _ => h
  | n + 1, hd, i, tr, h, hi => go_okk hi (fun hd j tr h hj => gets_okk ws n hd j tr h hj) (ws_ ws i) hd tr (fun k hk => ws_sub hk) h
def stM (h t : Addr) (hd : Held Key) (tr : List Key) (M : Mst) : Mst := put (put M h (.dK (hdD hd))) t (.dK (trD tr))
section
variable {h t : Addr} {hd hd2 : Held Key} {tr tr2 : List Key} {M : Mst}
theorem st_h (ne : h ≠ t) : stM h t hd tr M h = some (.dK (hdD hd)) := by unfold stM; rw [put_ne ne]; simp
theorem st_t : stM h t hd tr M t = some (.dK (trD tr)) := by unfold stM; simp
theorem st_puth (ne : h ≠ t) : put (stM h t hd tr M) h (.dK (hdD hd2)) = stM h t hd2 tr M := by
  unfold stM; rw [put_comm (Ne.symm ne), put_put]
theorem st_putt : put (stM h t hd tr M) t (.dK (trD tr2)) = stM h t hd tr2 M := by unfold stM; simp
theorem st_st (ne : h ≠ t) : stM h t hd2 tr2 (stM h t hd tr M) = stM h t hd2 tr2 M := by
  show put (put (stM h t hd tr M) h _) t _ = _
  rw [st_puth ne, st_putt]
theorem st_id (h1 : M h = some (.dK (hdD hd))) (h2 : M t = some (.dK (trD tr))) : stM h t hd tr M = M := by
  unfold stM; rw [put_id h1, put_id h2]
end
def spGets (n : Nat) : DSp := fun ds M Q _ => ∃ (ws : List (List Key)) (h t : Addr) (hd : Held Key) (i : Nat) (tr : List Key), ds = [wsD ws, .ref h, .int i, .ref t] ∧ h ≠ t ∧ M h = some (.dK (hdD hd)) ∧ M t = some (.dK (trD tr)) ∧ i < ws.length ∧ Okk ws hd tr ∧
  ws.flatten.length < 90000 ∧ left hd tr < n ∧ Q (.bl (getsF ws n hd i tr).1) (stM h t (getsF ws n hd i tr).2.1 (getsF ws n hd i tr).2.2 M)
def qGets (sp_gets_holder : DSp) : DTS :=
  (qSeq (qFor (qiAny (qOp dIx (qVar 0) (qVar 2))) (gNameD 4)
  (qIfS (qTB (qOp (dIn true) (qVar 4) (qVar 3)))
  (qSeq (qAsg (qC (.bl true)) (gSubD (qVar 3) (qVar 4)))
  (qIfS (qOr (qTB (qOp (dIn true) (qVar 4) (qVar 1))) (qTB (qCall sp_gets_holder [] (qCons (qVar 0) (qCons (qVar 1) (qCons (qOp dIx (qVar 1) (qVar 4)) (qCons (qVar 3) qNil)))))))
  (qSeq (qAsg (qVar 2) (gSubD (qVar 1) (qVar 4)))
  (qRet (qC (.bl true))))
  qNext))
  qNext))
  (qRet (qC (.bl false))))
theorem len_le {ws : List (List Key)} {hd : Held Key} {tr : List Key} (h : Okk ws hd tr) (hl : ws.flatten.length < 90000) : (hdD hd).length < 100000 ∧ (trD tr).length < 100000 := by
  have h1 := nodup_le h.nd h.ksub
  have h2 := nodup_le h.tnd h.tsub
  simp [hdD, trD, keys] at h1 h2 ⊢
  simp at hl
  omega
theorem gets_loop {n : Nat} {ws : List (List Key)} {h t : Addr} {i : Nat} {M : Mst} {DW : DWt} {DE : DEnds} (ne : h ≠ t) (hi : i < ws.length) (hl : ws.flatten.length < 90000) :
    ∀ (ks : List Key) (hd : Held Key) (tr : List Key) (x : Option D), (∀ k ∈ ks, k ∈ ws.flatten) → Okk ws hd tr → left hd tr < n + 1 →
      ((goF (getsF ws n) i ks hd tr).1 = true → DE.rt (.bl true) (stM h t (goF (getsF ws n) i ks hd tr).2.1 (goF (getsF ws n) i ks hd tr).2.2 M)) →
      ((goF (getsF ws n) i ks hd tr).1 = false → ∀ x, DE.nx [some (wsD ws), some (.ref h), some (.int i), some (.ref t), x] (stM h t (goF (getsF ws n) i ks hd tr).2.1 (goF (getsF ws n) i ks hd tr).2.2 M)) →
      loopL always (gNameD 4) (qIfS (qTB (qOp (dIn true) (qVar 4) (qVar 3)))
  (qSeq (qAsg (qC (.bl true)) (gSubD (qVar 3) (qVar 4)))
  (qIfS (qOr (qTB (qOp (dIn true) (qVar 4) (qVar 1))) (qTB (qCall (spGets n) [] (qCons (qVar 0) (qCons (qVar 1) (qCons (qOp dIx (qVar 1) (qVar 4)) (qCons (qVar 3) qNil)))))))
  (qSeq (qAsg (qVar 2) (gSubD (qVar 1) (qVar 4)))
  (qRet (qC (.bl true))))
  qNext))
  qNext) DW DE (ks.map kD) [some (wsD ws), some (.ref h), some (.int i), some (.ref t), x] (stM h t hd tr M)
  | [], hd, tr, x, _, ok, hm, h1, h2 => ⟨trivial, h2 rfl x⟩
  | k :: ks, hd, tr, x, hs, ok, hm, h1, h2 => by
    refine ⟨trivial, ?_⟩
    have hk := hs k (List.mem_cons_self ..)
    have ih := gets_loop (n := n) (M := M) (DW := DW) (DE := DE) ne hi hl ks
    have hs2 : ∀ x ∈ ks, x ∈ ws.flatten := fun x hx => hs x (List.mem_cons_of_mem _ hx)
    unfold goF at h1 h2
    simp only [gNameD, List.set_cons_zero, List.set_cons_succ, qIfS, qTB, qOp, qVar, List.getElem?_cons_zero, List.getElem?_cons_succ]
    rw [in_d st_t (keyD_kD k), val_tr]
    by_cases z : k ∈ tr
    · rw [if_pos z] at h1 h2
      simp only [z, decide_true, Bool.xor_true, Bool.not_true, Bool.false_eq_true, if_false]
      exact ih hd tr _ hs2 ok hm h1 h2
    · rw [if_neg z] at h1 h2
      simp only [z, decide_false, Bool.xor_false, if_true]
      have ok2 := ok.add z hk
      simp only [qSeq, qAsg, qC, gSub_eq, qVar, List.getElem?_cons_zero, List.getElem?_cons_succ]
      rw [set_d st_t (keyD_kD k), put_tr z, st_putt]
      refine ⟨(len_le ok hl).2, ?_⟩
      simp only [qIfS, qOr, qTB, qOp, qVar, List.getElem?_cons_zero, List.getElem?_cons_succ]
      rw [in_d (st_h ne) (keyD_kD k), val_hd]
      -- held[holder] = wish; return True
      have fin : ∀ (DE2 : DEnds) (hd2 : Held Key) (tr2 : List Key), DE2.rt = DE.rt → Okk ws hd2 tr2 → DE.rt (.bl true) (stM h t (putH hd2 k i) tr2 M) →
          (qSeq (qAsg (qVar 2) (gSubD (qVar 1) (qVar 4))) (qRet (qC (.bl true)))) DW DE2 [some (wsD ws), some (.ref h), some (.int i), some (.ref t), some (kD k)] (stM h t hd2 tr2 M) := fun DE2 hd2 tr2 er ok2 hf => by
        simp only [qSeq, qAsg, qVar, gSub_eq, qRet, qC, List.getElem?_cons_zero, List.getElem?_cons_succ]
        rw [set_d (st_h ne) (keyD_kD k), put_hd ok2.nd, st_puth ne]
        exact ⟨(len_le ok2 hl).1, by rw [er]; exact hf⟩
      cases el : look hd k with
      | none =>
        simp only [el] at h1
        exact fin _ hd _ rfl ok2 (h1 trivial)
      | some j =>
        have hj := ok.val _ _ (look_some el)
        simp only [Option.map_some, Option.isSome_some, Bool.xor_true, Bool.not_true, Bool.false_eq_true, if_false, qCall, qCons, qNil, qVar, qOp, List.getElem?_cons_zero, List.getElem?_cons_succ, List.append_nil]
        rw [ix_d (st_h ne) (keyD_kD k) (by rw [val_hd, el]; rfl)]
        have hm2 : left hd (tr ++ [k]) < n := by have := left_less el z; omega
        refine ⟨ws, h, t, hd, j, tr ++ [k], rfl, ne, st_h ne, st_t, hj, ok2, hl, hm2, ?_⟩
        rw [st_st ne]
        have ok3 := gets_okk ws n hd j (tr ++ [k]) ok2 hj
        have out := gets_out ws n hd j (tr ++ [k]) ok.nd hm2
        simp only [el] at h1 h2
        rcases hr : getsF ws n hd j (tr ++ [k]) with ⟨b, hd2, tr2⟩
        rw [hr] at ok3 out
        simp only [hr] at h1 h2
        cases b with
        | true => exact fin _ hd2 tr2 rfl ok3 (h1 rfl)
        | false =>
          obtain ⟨_, F⟩ | ⟨e, _⟩ := out
          · have e := F.he
            simp only at e
            subst e
            exact ih hd2 tr2 _ hs2 ok3 (Nat.lt_of_le_of_lt (left_mono F.sub) (by omega)) h1 h2
          · cases e
theorem gets_ok (n : Nat) (ds : List D) (M : Mst) (Q : DK) (Ed : DX → Mst → Prop) (h : upSp (spGets (n + 1)) ds M Q Ed) : qGets (spGets n) (fun x _ M => Ed x M) (retE Q) (startD ["wishes", "held", "wish", "tried", "holder"] ds) M := by
  obtain ⟨Q0, E0, ⟨ws, h, t, hd, i, tr, rfl, ne, mh, mt, hi, ok, hl, hm, k⟩, kq, _⟩ := h
  replace k := kq _ _ _ (Sub.refl _) k
  show qSeq _ _ _ _ [some (wsD ws), some (.ref h), some (.int i), some (.ref t), none] M
  simp only [qSeq, qFor, qiAny, qOp, qVar, List.getElem?_cons_zero, List.getElem?_cons_succ]
  have e : ws_ ws i = ws[i] := by unfold ws_; rw [List.getElem?_eq_getElem hi]; rfl
  rw [wsD, ix_l (d := wD ws[i]) (by rw [atI_n, List.getElem?_map, List.getElem?_eq_getElem hi]; rfl)]
  simp only [wD]
  have hM : M = stM h t hd tr M := (st_id mh mt).symm
  have lp := gets_loop (n := n) (M := M) (DW := fun x _ M => Ed x M) (DE := { nx := qRet (qC (.bl false)) (fun x _ M => Ed x M) (retE Q), rt := Q }) ne hi hl (ws[i]) hd tr none (fun k hk => ws_sub (by rw [e]; exact hk)) ok hm
  rw [← hM] at lp
  have k' : Q (.bl (goF (getsF ws n) i ws[i] hd tr).1) (stM h t (goF (getsF ws n) i ws[i] hd tr).2.1 (goF (getsF ws n) i ws[i] hd tr).2.2 M) := by
    rw [← e]; exact k
  exact lp (fun z => by rw [z] at k'; exact k') (fun z x => by rw [z] at k'; exact k')

/-! ### band_of -/
def optD : Option Key → D
  | none => .non
  | some k => kD k
@[simp] theorem isNon_optD (o : Option Key) : isNon (optD o) = o.isNone := by
  cases o with
  | none => rfl
  | some k => cases k <;> rfl
/-- the wishes that are without, and those that their holders are held by, and so on -/
inductive Reach (ws : List (List Key)) (hd : Held Key) (prs : List (Option Key)) : Nat → Prop
  | base {v} : prs[v]? = some none → Reach ws hd prs v
  | step {v k j} : Reach ws hd prs v → k ∈ ws_ ws v → look hd k = some j → Reach ws hd prs j
noncomputable def bandL (ws : List (List Key)) (hd : Held Key) (prs : List (Option Key)) : List Nat :=
  (List.range ws.length).filter fun v => @decide (Reach ws hd prs v) (Classical.propDecidable _)
def natsD (l : List Nat) : List D := l.map fun v : Nat => D.int (v : Int)
structure BandPre (ws : List (List Key)) (hd : Held Key) (prs : List (Option Key)) : Prop where
  len : prs.length = ws.length
  few : ws.length ≤ 63
  each : ∀ w ∈ ws, w.length ≤ 63
  all : ∀ v, Reach ws hd prs v → ∀ k ∈ ws_ ws v, ∃ j, look hd k = some j
  val : ∀ k j, look hd k = some j → j < ws.length
def spBandG (m : Bool) : DSp := fun ds M Q _ => ∃ (ws : List (List Key)) (hd : Held Key) (prs : List (Option Key)) (h : Addr) (pd : D), ds = [wsD ws, pd, .ref h] ∧ (pd = .lst (prs.map optD) ∨ ∃ q, pd = .ref q ∧ M q = some (.lst (prs.map optD))) ∧
  M h = some (.dK (hdD hd)) ∧ BandPre ws hd prs ∧ newL m (natsD (bandL ws hd prs)) M Q
abbrev spBand : DSp := spBandG false
def qBandG (m : Bool) : DTS :=
  (qSeq (qAsg qDNew (gNameD 3))
  (qSeq (qAsg (qLc true (qiEnum (qCons (qVar 1) qNil)) (gTupD 2 (gConsD (gNameD 5) (gConsD (gNameD 6) gNilD))) (qTB (qOp (dIs false) (qVar 6) (qC .non))) (qVar 5) [5, 6]) (gNameD 4))
  (qSeq (qWhile (qTB (qOp (dEq true) (qVar 4) (qLst false qNil)))
  (qSeq (qAsg (qBM0 "list" mPop (qVar 4)) (gNameD 5))
  (qIfS (qTB (qOp (dIn true) (qVar 5) (qVar 3)))
  (qSeq (qAsg (qC (.bl true)) (gSubD (qVar 3) (qVar 5)))
  (qAug 4 (qLc false (qiAny (qOp dIx (qVar 0) (qVar 5))) (gNameD 6) qYes (qOp dIx (qVar 2) (qVar 6)) [6]) dAug))
  qNext)))
  (qRet (qCB (dSorted m) (qCons (qVar 3) qNil))))))
abbrev qBand : DTS := qBandG false
def fdD (l : List Nat) : List (Key × D) := l.map fun v : Nat => ((.inl (v : Int) : Key), D.bl true)
/-- the state ahead of each turn of the while -/
structure BandI (ws : List (List Key)) (hd : Held Key) (prs : List (Option Key)) (fd wt : List Nat) : Prop where
  nd : fd.Nodup
  fr : ∀ v ∈ fd, Reach ws hd prs v
  wr : ∀ v ∈ wt, Reach ws hd prs v
  base : ∀ v, prs[v]? = some none → v ∈ fd ∨ v ∈ wt
  cl : ∀ v ∈ fd, ∀ k ∈ ws_ ws v, ∀ j, look hd k = some j → j ∈ fd ∨ j ∈ wt
  len : wt.length ≤ 63 + 63 * fd.length
theorem reach_lt {ws : List (List Key)} {hd : Held Key} {prs : List (Option Key)} (B : BandPre ws hd prs) {v : Nat} (h : Reach ws hd prs v) : v < ws.length := by
  cases h with
  | base h => rw [← B.len]; exact (List.getElem?_eq_some_iff.mp h).1
  | step _ _ h => exact B.val _ _ h
theorem fd_len {ws : List (List Key)} {hd : Held Key} {prs : List (Option Key)} (B : BandPre ws hd prs) {fd : List Nat} (nd : fd.Nodup) (h : ∀ v ∈ fd, Reach ws hd prs v) : fd.length ≤ 63 := by
  have := nodup_le (m := List.range ws.length) nd fun v hv => List.mem_range.mpr (reach_lt B (h v hv))
  rw [List.length_range] at this
  exact Nat.le_trans this B.few
theorem band_done {ws : List (List Key)} {hd : Held Key} {prs : List (Option Key)} (B : BandPre ws hd prs) {fd : List Nat} (I : BandI ws hd prs fd []) {ns : List Int} (hp : ns.Perm (fd.map fun v : Nat => (v : Int))) (hs : ns.Pairwise (· ≤ ·)) :
    ns.map D.int = natsD (bandL ws hd prs) := by
  have all : ∀ v, Reach ws hd prs v → v ∈ fd := fun v h => by
    induction h with
    | base h => exact (I.base _ h).resolve_right (by simp)
    | step _ hk hl ih => exact (I.cl _ ih _ hk _ hl).resolve_right (by simp)
  have e : ns = (bandL ws hd prs).map fun v : Nat => (v : Int) := by
    have p2 : ((bandL ws hd prs).map fun v : Nat => (v : Int)).Pairwise (· ≤ ·) := by
      rw [List.pairwise_map]
      refine List.Pairwise.sublist List.filter_sublist (List.Pairwise.imp ?_ (List.pairwise_lt_range (n := ws.length)))
      intro a b h; omega
    have p1 : (bandL ws hd prs).Perm fd := by
      have nb : (bandL ws hd prs).Nodup := List.Nodup.sublist List.filter_sublist List.nodup_range
      rw [List.perm_ext_iff_of_nodup nb I.nd]
      intro v
      unfold bandL
      rw [List.mem_filter]
      constructor
      · rintro ⟨_, h⟩; exact all v (@of_decide_eq_true _ (_) h)
      · intro h; exact ⟨List.mem_range.mpr (reach_lt B (I.fr v h)), @decide_eq_true _ (_) (I.fr v h)⟩
    exact List.Perm.eq_of_pairwise (fun a b _ _ h1 h2 => by omega) hs p2 (hp.trans (p1.map _).symm)
  rw [e]; unfold natsD; rw [List.map_map]; rfl
end Pair

/-! PairC: band_of, paired. -/
namespace Pair
open PySem L2 DL
def bM (a b : Addr) (fd wt : List Nat) (M : Mst) : Mst := put (put M a (.dK (fdD fd))) b (.lst (natsD wt))
theorem val_fd (fd : List Nat) (v : Nat) : (valD (fdD fd) (.inl (v : Int))).isSome = decide (v ∈ fd) := by
  induction fd with
  | nil => rfl
  | cons a r ih =>
    by_cases e : a = v
    · subst e; simp [fdD, valD]
    · have e' : ¬ v = a := fun z => e z.symm
      have : valD (fdD (a :: r)) (.inl (v : Int)) = valD (fdD r) (.inl (v : Int)) := by
        have : ¬ ((a : Int) = (v : Int)) := by omega
        simp [fdD, valD, this]
      rw [this, ih]; simp [e']
theorem put_fd {fd : List Nat} {v : Nat} (h : v ∉ fd) : putD (fdD fd) (.inl (v : Int)) (.bl true) = fdD (fd ++ [v]) := by
  rw [putD_map]
  · simp [fdD]
  · intro z
    simp [fdD] at z
    obtain ⟨x, hx, e⟩ := z
    have e' : x = v := by omega
    exact h (e' ▸ hx)
theorem res_lst' {M : Mst} {ds : List D} : res M (.lst ds) = .lst ds := rfl
theorem isData_nats (l : List Nat) : (natsD l).all isData = true := by
  unfold natsD
  rw [List.all_map]
  exact List.all_eq_true.mpr fun x _ => rfl
section
variable {a b h : Addr} {fd wt fd2 wt2 : List Nat} {M : Mst}
theorem bM_a (ne : a ≠ b) : bM a b fd wt M a = some (.dK (fdD fd)) := by unfold bM; rw [put_ne ne]; simp
theorem bM_b : bM a b fd wt M b = some (.lst (natsD wt)) := by unfold bM; simp
theorem bM_h (h1 : h ≠ a) (h2 : h ≠ b) : bM a b fd wt M h = M h := by unfold bM; rw [put_ne h2, put_ne h1]
theorem bM_puta (ne : a ≠ b) : put (bM a b fd wt M) a (.dK (fdD fd2)) = bM a b fd2 wt M := by
  unfold bM; rw [put_comm (Ne.symm ne), put_put]
theorem bM_putb : put (bM a b fd wt M) b (.lst (natsD wt2)) = bM a b fd wt2 M := by unfold bM; simp
end
theorem ne_of_put {M : Mst} {a b : Addr} {o : MO} (h : put M a o b = none) : b ≠ a := fun e => by rw [e, put_same] at h; cases h
theorem ne_of_some {M : Mst} {a b : Addr} {o : MO} (h : M a = some o) (g : M b = none) : a ≠ b := fun e => by rw [e, g] at h; cases h
def keyF (hd : Held Key) (d : D) : Option D := match keyD d with
  | some k => (look hd k).map fun j : Nat => D.int (j : Int)
  | none => none
theorem keyF_map (hd : Held Key) : ∀ w : List Key, (w.map kD).filterMap (keyF hd) = natsD (w.filterMap (look hd))
  | [] => rfl
  | k :: w => by
    have ih := keyF_map hd w
    rw [List.map_cons, List.filterMap_cons, List.filterMap_cons]
    have e : keyF hd (kD k) = (look hd k).map fun j : Nat => D.int (j : Int) := by simp [keyF]
    rw [e]
    cases look hd k with
    | none => exact ih
    | some j => simp [ih, natsD]
theorem newL_up {m : Bool} {ds : List D} {M M' : Mst} {Q0 Q : DK} (hs : Sub M M') (kq : ∀ d M' M'', Sub M'' M' → Q0 d M'' → Q d M') (h : newL m ds M Q0) : newL m ds M' Q := by
  cases m with
  | false => exact kq _ _ _ hs h
  | true =>
    intro c hc
    have mc : M c = none := by
      cases e : M c with
      | none => rfl
      | some o => rw [hs _ _ e] at hc; cases hc
    refine kq _ _ _ (fun a o e => ?_) (h c mc)
    by_cases z : a = c
    · subst z; rw [put_same] at e ⊢; exact e
    · rw [put_ne z] at e ⊢; exact hs _ _ e
theorem band_ok (m : Bool) (ds : List D) (M : Mst) (Q : DK) (Ed : DX → Mst → Prop) (hsp : upSp (spBandG m) ds M Q Ed) : qBandG m (fun x _ M => Ed x M) (retE Q) (startD ["wishes", "pairs", "held", "found", "waiting", "wish", "holder"] ds) M := by
  obtain ⟨Q0, E0, ⟨ws, hd, prs, h, pd, rfl, hpd, mh, B, k⟩, kq, _⟩ := hsp
  show qSeq _ _ _ _ [some (wsD ws), some pd, some (.ref h), none, none, none, none] M
  simp only [qSeq, qAsg, qDNew, gNameD, List.set_cons_zero, List.set_cons_succ]
  intro a ha
  have nha := ne_of_some mh ha
  simp only [qLc, qiEnum, qCons, qNil, qVar, List.getElem?_cons_zero, List.getElem?_cons_succ]
  obtain ⟨Sty, el, hSty⟩ : ∃ Sty, lstAt (put M a (.dK [])) pd = some (prs.map optD, Sty) ∧ ∀ b acc, put M a (.dK []) b = none → Sty (put (put M a (.dK [])) b (.lst acc)) := by
    rcases hpd with rfl | ⟨q, rfl, mq⟩
    · exact ⟨always, rfl, fun _ _ _ => trivial⟩
    · have nq := ne_of_some mq ha
      have mq2 : put M a (.dK []) q = some (.lst (prs.map optD)) := by rw [put_ne nq]; exact mq
      refine ⟨holds q (.lst (prs.map optD)), by simp [lstAt, mq2], fun b acc hb => ?_⟩
      have nb := ne_of_some mq2 hb
      show put _ b _ q = _
      rw [put_ne nb]; exact mq2
  rw [el]
  simp only
  intro b hb
  have nba := ne_of_put hb
  have hb0 : M b = none := by rw [put_ne nba] at hb; exact hb
  have nhb := ne_of_some mh hb0
  refine compL_map hb (fun d => match d with | .tup [.int i, x] => if isNon x = true then some (.int i) else none | _ => none) (fun acc => hSty b acc hb) (by
      have := B.len; have := B.few; simp; omega) (fun d hd acc R hR => ?_) ?_
  · obtain ⟨i, hi⟩ := List.getElem?_of_mem hd
    rw [enumD_get] at hi
    cases e : (prs.map optD)[i]? with
    | none => rw [e] at hi; cases hi
    | some x =>
      rw [e] at hi
      cases hi
      simp only [gTupD, res_tup, gConsD, gNilD, gNameD, wipeD, List.set_cons_zero, List.set_cons_succ, List.length_cons, List.length_nil]
      refine ⟨trivial, trivial, ?_⟩
      simp only [qTB, qOp, qVar, qC, dIs, List.getElem?_cons_zero, List.getElem?_cons_succ, Bool.false_xor]
      simp only at hR
      cases en : isNon x with
      | true => rw [en] at hR; exact hR
      | false => rw [en] at hR; exact hR
  · simp only [if_true]
    rw [enum_places (f := isNon) (by intro i d; rfl)]
    have w0 : put (put M a (.dK [])) b (.lst ((placesF isNon 0 (prs.map optD)).map fun v : Nat => D.int (v : Int))) = bM a b [] (placesF isNon 0 (prs.map optD)) M := rfl
    rw [w0]
    have mem0 : ∀ v, v ∈ placesF isNon 0 (prs.map optD) ↔ prs[v]? = some none := fun v => by
      rw [mem_places]
      constructor
      · rintro ⟨_, d, h1, h2⟩
        rw [Nat.sub_zero, List.getElem?_map] at h1
        cases e : prs[v]? with
        | none => rw [e] at h1; cases h1
        | some o =>
          rw [e] at h1; cases h1
          rw [isNon_optD] at h2
          cases o with
          | none => rfl
          | some _ => cases h2
      · intro e
        exact ⟨Nat.zero_le _, .non, by rw [Nat.sub_zero, List.getElem?_map, e]; rfl, rfl⟩
    have I0 : BandI ws hd prs [] (placesF isNon 0 (prs.map optD)) := ⟨List.nodup_nil, fun v h => (by cases h), fun v h => .base ((mem0 v).mp h), fun v h => .inr ((mem0 v).mpr h), fun v h => (by cases h), by
      have := places_len (f := isNon) (s := 0) (ds := prs.map optD)
      have := B.len; have := B.few
      simp at this ⊢; simp at *; omega⟩
    refine while_inv (fun n p M' => ∃ fd wt x5 x6, BandI ws hd prs fd wt ∧ p = [some (wsD ws), some pd, some (.ref h), some (.ref a), some (.ref b), x5, x6] ∧ M' = bM a b fd wt M ∧ n = (63 - fd.length) * 64 + wt.length) ?_ ⟨[], _, none, none, I0, rfl, rfl, rfl⟩
    rintro n p M' R ⟨fd, wt, x5, x6, I, rfl, rfl, rfl⟩ hR
    simp only [qTB, qOp, qVar, qLst, qNil, newL_f, List.getElem?_cons_zero, List.getElem?_cons_succ]
    refine ⟨by simp, ?_⟩
    rw [eq_nil (res_r bM_b) (isData_nats wt)]
    have fl := fd_len B I.nd I.fr
    by_cases hw : wt = []
    · -- sorted(found)
      subst hw
      simp only [natsD, List.map_nil, List.isEmpty_nil, Bool.xor_true, Bool.not_true, Bool.false_eq_true, if_false, qRet, qCB, qCons, qNil, qVar, List.getElem?_cons_zero, List.getElem?_cons_succ]
      unfold dSorted
      simp only
      rw [res_d (bM_a nba.symm)]
      have e1 : (fdD fd).map (·.1) = (fd.map fun v : Nat => (v : Int)).map Sum.inl := by simp [fdD]
      simp only [e1, intKeys_map]
      refine ⟨by rw [List.length_map]; omega, fun ns hp hs => ?_⟩
      rw [band_done B I hp hs]
      have sub : Sub M (bM a b fd [] M) := ((Sub.refl M).put ha).put hb0
      exact newL_up sub kq k
    · obtain ⟨wt', v, rfl⟩ : ∃ wt' v, wt = wt' ++ [v] := ⟨wt.dropLast, wt.getLast hw, (List.dropLast_concat_getLast hw).symm⟩
      have e1 : natsD (wt' ++ [v]) = natsD wt' ++ [.int (v : Int)] := by simp [natsD]
      have e2 : (natsD (wt' ++ [v])).isEmpty = false := by rw [e1]; simp
      rw [e2]
      simp only [Bool.xor_false, if_true]
      -- wish = waiting.pop()
      simp only [qSeq, qAsg, qBM0, qVar, gNameD, List.getElem?_cons_zero, List.getElem?_cons_succ, List.set_cons_zero, List.set_cons_succ]
      refine ⟨by rw [res_r bM_b]; rfl, ?_⟩
      have popped : ∀ (Q : DK), Q (.int (v : Int)) (bM a b fd wt' M) → mPop (.ref b) [] (bM a b fd (wt' ++ [v]) M) Q := fun Q hQ => by
        unfold mPop
        simp only
        rw [bM_b]
        simp only [e1]
        have g : (natsD wt' ++ [D.int (v : Int)])[(natsD wt' ++ [D.int (v : Int)]).length - 1]? = some (.int (v : Int)) := by simp
        rw [g]
        simp only
        rw [List.dropLast_concat, bM_putb]
        exact hQ
      apply popped
      have vr : Reach ws hd prs v := I.wr v (by simp)
      have hv := reach_lt B vr
      simp only [qIfS, qTB, qOp, qVar, List.getElem?_cons_zero, List.getElem?_cons_succ]
      rw [in_d (bM_a nba.symm) (k := .inl (v : Int)) rfl, val_fd]
      by_cases hin : v ∈ fd
      · simp only [hin, decide_true, Bool.xor_true, Bool.not_true, Bool.false_eq_true, if_false, qNext]
        refine hR _ _ _ (by rw [List.length_append]; simp) ⟨fd, wt', _, _, ⟨I.nd, I.fr, fun x hx => I.wr x (by simp [hx]), fun x hx => ?_, fun x hx k hk j hj => ?_, by have := I.len; rw [List.length_append] at this; simp at this; omega⟩, rfl, rfl, rfl⟩
        · rcases I.base x hx with h | h
          · exact .inl h
          · rcases List.mem_append.mp h with h | h
            · exact .inr h
            · simp at h; subst h; exact .inl hin
        · rcases I.cl x hx k hk j hj with h | h
          · exact .inl h
          · rcases List.mem_append.mp h with h | h
            · exact .inr h
            · simp at h; subst h; exact .inl hin
      · simp only [hin, decide_false, Bool.xor_false, if_true, qSeq, qAsg, qC, gSub_eq, qVar, List.getElem?_cons_zero, List.getElem?_cons_succ]
        rw [set_d (bM_a nba.symm) (k := .inl (v : Int)) rfl, put_fd hin, bM_puta nba.symm]
        refine ⟨by simp [fdD]; omega, ?_⟩
        simp only [qAug, List.getElem?_cons_zero, List.getElem?_cons_succ, qLc, qiAny, qOp, qVar]
        have ew : ws_ ws v = ws[v] := by unfold ws_; rw [List.getElem?_eq_getElem hv]; rfl
        rw [wsD, ix_l (d := wD ws[v]) (by rw [atI_n, List.getElem?_map, List.getElem?_eq_getElem hv]; rfl)]
        simp only [wD]
        intro c hc
        have hcM : bM a b (fd ++ [v]) wt' M h = some (.dK (hdD hd)) := by rw [bM_h nha nhb]; exact mh
        have nhc := ne_of_some hcM hc
        have wl : ws[v].length ≤ 63 := B.each _ (List.getElem_mem hv)
        refine compL_map hc (keyF hd) (fun _ => trivial) (by rw [List.length_map]; omega) (fun d hd' acc R hR' => ?_) ?_
        · obtain ⟨k0, hk0, rfl⟩ := List.mem_map.mp hd'
          obtain ⟨j, hj⟩ := B.all v vr k0 (by rw [ew]; exact hk0)
          simp only [gNameD, wipeD, List.set_cons_zero, List.set_cons_succ, qYes, if_true, qOp, qVar, List.getElem?_cons_zero, List.getElem?_cons_succ]
          rw [ix_d (M := put (bM a b (fd ++ [v]) wt' M) c (.lst acc)) (kvs := hdD hd) (k := k0) (d := .int (j : Int)) (by rw [put_ne nhc]; exact hcM) (keyD_kD k0) (by rw [val_hd, hj]; rfl)]
          have e3 : keyF hd (kD k0) = some (.int (j : Int)) := by simp [keyF, hj]
          rw [e3] at hR'
          exact hR'
        · simp only [Bool.false_eq_true, if_false]
          rw [keyF_map]
          have jl : (ws[v].filterMap (look hd)).length ≤ 63 := Nat.le_trans (List.length_filterMap_le ..) wl
          have fl2 := fd_len B (fd := fd ++ [v]) (List.nodup_append.mpr ⟨I.nd, by simp, fun x hx y hy => by simp at hy; subst hy; exact fun z => hin (z ▸ hx)⟩) (fun x hx => by
            rcases List.mem_append.mp hx with h | h
            · exact I.fr x h
            · simp at h; subst h; exact vr)
          have il := I.len
          rw [List.length_append] at fl2 il
          simp at fl2 il
          have aug : ∀ (R2 : DK), R2 (.ref b) (bM a b (fd ++ [v]) (wt' ++ ws[v].filterMap (look hd)) M) → dAug (.ref b) (.lst (natsD (ws[v].filterMap (look hd)))) (bM a b (fd ++ [v]) wt' M) R2 := fun R2 h2 => by
            unfold dAug
            simp only
            rw [bM_b]
            simp only [res_lst]
            refine ⟨by simp only [natsD, List.length_map]; omega, ?_⟩
            have : natsD wt' ++ natsD (ws[v].filterMap (look hd)) = natsD (wt' ++ ws[v].filterMap (look hd)) := by simp [natsD]
            rw [this, bM_putb]; exact h2
          apply aug
          refine hR _ _ _ (by simp only [List.length_append, List.length_singleton]; omega) ⟨fd ++ [v], wt' ++ ws[v].filterMap (look hd), _, _, ⟨List.nodup_append.mpr ⟨I.nd, by simp, fun x hx y hy => by simp at hy; subst hy; exact fun z => hin (z ▸ hx)⟩, fun x hx => ?_, fun x hx => ?_, fun x hx => ?_, fun x hx k hk j hj => ?_, by simp only [List.length_append, List.length_singleton]; omega⟩, rfl, rfl, rfl⟩
          · rcases List.mem_append.mp hx with h | h
            · exact I.fr x h
            · simp at h; subst h; exact vr
          · rcases List.mem_append.mp hx with h | h
            · exact I.wr x (by simp [h])
            · obtain ⟨k0, h1, h2⟩ := List.mem_filterMap.mp h
              exact .step vr (by rw [ew]; exact h1) h2
          · rcases I.base x hx with h | h
            · exact .inl (by simp [h])
            · rcases List.mem_append.mp h with h | h
              · exact .inr (by simp [h])
              · exact .inl (by simp at h; simp [h])
          · rcases List.mem_append.mp hx with h | h
            · rcases I.cl x h k hk j hj with h | h
              · exact .inl (by simp [h])
              · rcases List.mem_append.mp h with h | h
                · exact .inr (by simp [h])
                · exact .inl (by simp at h; simp [h])
            · simp at h; subst h
              exact .inr (List.mem_append_right _ (List.mem_filterMap.mpr ⟨k, by rw [← ew]; exact hk, hj⟩))
end Pair

/-! PairD: paired. -/
namespace Pair
open PySem L2 DL
section
variable {κ : Type} [DecidableEq κ]
def setP (ps : List (Option κ)) (q : κ × Nat) : List (Option κ) := ps.set q.2 (some q.1)
def prsF (hd : Held κ) (n : Nat) : List (Option κ) := hd.foldl setP (List.replicate n none)
theorem fold_len : ∀ (hd : Held κ) (ps : List (Option κ)), (hd.foldl setP ps).length = ps.length
  | [], _ => rfl
  | q :: hd, ps => by rw [List.foldl_cons, fold_len hd]; simp [setP]
theorem fold_no : ∀ (hd : Held κ) (ps : List (Option κ)) (v : Nat), cnt hd v = 0 → (hd.foldl setP ps)[v]? = ps[v]?
  | [], _, _, _ => rfl
  | q :: hd, ps, v, h => by
    unfold cnt at h
    rw [List.countP_cons] at h
    have h1 : hd.countP (fun q => decide (q.2 = v)) = 0 := by omega
    have h2 : ¬ q.2 = v := fun e => by simp [e] at h
    rw [List.foldl_cons, fold_no hd _ v h1, setP, List.getElem?_set_ne h2]
theorem fold_yes : ∀ (hd : Held κ) (ps : List (Option κ)) (v : Nat) (k : κ), (k, v) ∈ hd → cnt hd v ≤ 1 → v < ps.length → (hd.foldl setP ps)[v]? = some (some k)
  | [], _, _, _, h, _, _ => by cases h
  | q :: hd, ps, v, k, h, h1, hl => by
    unfold cnt at h1
    rw [List.countP_cons] at h1
    rw [List.foldl_cons]
    rcases List.mem_cons.mp h with e | e
    · subst e
      have h2 : hd.countP (fun q => decide (q.2 = v)) = 0 := by simp at h1; exact List.countP_eq_zero.mpr (by simpa using h1)
      rw [fold_no hd _ v h2, setP, List.getElem?_set_self hl]
    · refine fold_yes hd _ v k e (Nat.le_trans (Nat.le_add_right _ _) h1) (by simp [setP]; exact hl)
theorem prs_len (hd : Held κ) (n : Nat) : (prsF hd n).length = n := by unfold prsF; rw [fold_len]; simp
theorem prs_none {hd : Held κ} {n v : Nat} (one : ∀ v, cnt hd v ≤ 1) : (prsF hd n)[v]? = some none ↔ v < n ∧ cnt hd v = 0 := by
  constructor
  · intro h
    have hl : v < n := by rw [← prs_len hd n]; exact (List.getElem?_eq_some_iff.mp h).1
    refine ⟨hl, ?_⟩
    by_cases e : cnt hd v = 0
    · exact e
    · obtain ⟨k, hk⟩ := cnt_pos e
      have := fold_yes hd (List.replicate n none) v k hk (one v) (by simpa using hl)
      unfold prsF at h; rw [h] at this; cases this
  · rintro ⟨hl, e⟩
    unfold prsF
    rw [fold_no hd _ v e]; simp [hl]
theorem prs_some {hd : Held κ} {n v : Nat} {k : κ} (one : ∀ v, cnt hd v ≤ 1) : (prsF hd n)[v]? = some (some k) ↔ v < n ∧ (k, v) ∈ hd := by
  constructor
  · intro h
    have hl : v < n := by rw [← prs_len hd n]; exact (List.getElem?_eq_some_iff.mp h).1
    refine ⟨hl, ?_⟩
    by_cases e : cnt hd v = 0
    · have := (prs_none (n := n) one).mpr ⟨hl, e⟩; rw [h] at this; cases this
    · obtain ⟨k2, hk⟩ := cnt_pos e
      have := fold_yes hd (List.replicate n none) v k2 hk (one v) (by simpa using hl)
      unfold prsF at h; rw [h] at this; cases this; exact hk
  · rintro ⟨hl, h⟩
    exact fold_yes hd _ v k h (one v) (by simpa using hl)
theorem heldF_snoc (ws : List (List κ)) (f : Nat) : ∀ (l : List Nat) (i : Nat) (hd : Held κ), heldF ws f (l ++ [i]) hd = (getsF ws f (heldF ws f l hd) i []).2.1
  | [], i, hd => rfl
  | j :: l, i, hd => by rw [List.cons_append]; exact heldF_snoc ws f l i _
end
def hdOf (ws : List (List Key)) (i : Nat) : Held Key := heldF ws 64 (List.range i) []
theorem hdOf_succ (ws : List (List Key)) (i : Nat) : hdOf ws (i + 1) = (getsF ws 64 (hdOf ws i) i []).2.1 := by
  unfold hdOf; rw [List.range_succ, heldF_snoc]
theorem hdOf_inv (ws : List (List Key)) : ∀ (i : Nat), i ≤ 64 → Inv ws (hdOf ws i) i := fun i h => by
  have := inv_all (ws := ws) (f := 64) i 0 [] (inv0 ws) (by omega)
  rw [Nat.zero_add] at this
  unfold hdOf; rw [List.range_eq_range']; exact this
theorem inv_val {ws : List (List Key)} {hd : Held Key} {i : Nat} (I : Inv ws hd i) {k : Key} {j : Nat} (h : (k, j) ∈ hd) : j < i := by
  refine Nat.lt_of_not_le fun z => ?_
  have := I.new j z
  unfold cnt at this
  have h2 := List.countP_eq_zero.mp this (k, j) h
  simp at h2
theorem inv_okk {ws : List (List Key)} {hd : Held Key} {i : Nat} (I : Inv ws hd i) (hi : i ≤ ws.length) : Okk ws hd [] :=
  ⟨I.nd, fun k j h => Nat.lt_of_lt_of_le (inv_val I h) hi, fun k hk => by
    obtain ⟨⟨a, j⟩, h, rfl⟩ := List.mem_map.mp hk
    exact ws_sub (I.fit _ _ h), List.nodup_nil, fun _ h => (by cases h)⟩
structure PairPre (ws : List (List Key)) : Prop where
  few : ws.length ≤ 63
  each : ∀ w ∈ ws, w.length ≤ 63
theorem flat_le : ∀ {ws : List (List Key)}, (∀ w ∈ ws, w.length ≤ 63) → ws.flatten.length ≤ 63 * ws.length
  | [], _ => Nat.le_refl _
  | w :: ws, h => by
    have := flat_le (ws := ws) fun x hx => h x (List.mem_cons_of_mem _ hx)
    have := h w (List.mem_cons_self ..)
    simp only [List.flatten_cons, List.length_append, List.length_cons]; omega
def heldOf (ws : List (List Key)) : Held Key := hdOf ws ws.length
def prsOf (ws : List (List Key)) : List (Option Key) := prsF (heldOf ws) ws.length
noncomputable def bandOf (ws : List (List Key)) : List Nat := bandL ws (heldOf ws) (prsOf ws)
def spPaired : DSp := fun ds M Q _ => ∃ ws : List (List Key), ds = [wsD ws] ∧ PairPre ws ∧ Q (.tup [.lst ((prsOf ws).map optD), .lst (natsD (bandOf ws))]) M
theorem band_pre {ws : List (List Key)} (P : PairPre ws) : BandPre ws (heldOf ws) (prsOf ws) := by
  have I := hdOf_inv ws ws.length (by have := P.few; omega)
  obtain ⟨B, hB, hb⟩ := I.band
  have inB : ∀ v, Reach ws (heldOf ws) (prsOf ws) v → B v := fun v h => by
    induction h with
    | base h =>
      obtain ⟨h1, h2⟩ := (prs_none I.one).mp h
      exact hb _ h1 h2
    | step _ hk hl ih =>
      obtain ⟨j, h1, h2⟩ := hB _ ih _ hk
      unfold heldOf at hl
      rw [hl] at h1; cases h1; exact h2
  exact ⟨prs_len _ _, P.few, P.each, fun v h k hk => by
    obtain ⟨j, h1, _⟩ := hB v (inB v h) k hk
    exact ⟨j, h1⟩, fun k j h => inv_val I (look_some h)⟩
def spPairedM : DSp := fun ds M Q _ => ∃ ws : List (List Key), ds = [wsD ws] ∧ PairPre ws ∧ ∀ a b, a ≠ b → M a = none → M b = none → Q (.tup [.ref a, .ref b]) (put (put M a (.lst ((prsOf ws).map optD))) b (.lst (natsD (bandOf ws))))
def qPairedT (sp_gets_holder : DSp) (tail : DTS) : DTS :=
  (qSeq (qAsg qDNew (gNameD 1))
  (qSeq (qFor (qiRng1 (qCons (qCB dLen (qCons (qVar 0) qNil)) qNil)) (gNameD 2)
  (qDrop (qCall sp_gets_holder [] (qCons (qVar 0) (qCons (qVar 1) (qCons (qVar 2) (qCons qDNew qNil)))))))
  (qSeq (qAsg (qLc true (qiAny (qVar 0)) (gNameD 2) qYes (qC .non) [2]) (gNameD 3))
  (qSeq (qLock (selN 1) (qFor (qiItems (qVar 1)) (gTupD 2 (gConsD (gNameD 4) (gConsD (gNameD 2) gNilD)))
  (qAsg (qVar 4) (gSubD (qVar 3) (qVar 2))))) tail))))
def qPairedR (sp_band_of : DSp) (sp_gets_holder : DSp) : DTS := qPairedT sp_gets_holder
  (qFrz 3 (qRet (qTup (qCons (qVar 3) (qCons (qCall sp_band_of [] (qCons (qVar 0) (qCons (qVar 3) (qCons (qVar 1) qNil)))) qNil)))))
def qPairedM (sp_band_of : DSp) (sp_gets_holder : DSp) : DTS := qPairedT sp_gets_holder
  (qRet (qTup (qCons (qVar 3) (qCons (qCall sp_band_of [] (qCons (qVar 0) (qCons (qVar 3) (qCons (qVar 1) qNil)))) qNil))))
theorem repl_non : ∀ (ws : List (List Key)), (ws.map wD).filterMap (fun _ => some D.non) = (List.replicate ws.length (none : Option Key)).map optD
  | [] => rfl
  | w :: ws => by
    have := repl_non ws
    simp [List.replicate_succ, optD] at this ⊢
    exact this
theorem paired_main {ws : List (List Key)} (P : PairPre ws) {M : Mst} {DW : DWt} {DE : DEnds} {tail : DTS}
    (ht : ∀ (M' : Mst) (h b : Addr) (x2 x4 : Option D), Sub M M' → M' h = some (.dK (hdD (heldOf ws))) → M' b = some (.lst ((prsOf ws).map optD)) → M b = none → M h = none → h ≠ b → tail DW DE [some (wsD ws), some (.ref h), x2, some (.ref b), x4] M') :
    qPairedT (spGets 64) tail DW DE [some (wsD ws), none, none, none, none] M := by
  have few := P.few
  have hfl : ws.flatten.length < 90000 := by have := flat_le P.each; omega
  simp only [qPairedT, qSeq, qAsg, qDNew, gNameD, List.set_cons_zero, List.set_cons_succ]
  intro h hh
  simp only [qFor, qiRng1, qCB, qCons, qNil, qVar, List.getElem?_cons_zero, List.getElem?_cons_succ]
  rw [wsD, len_l, ← wsD]
  simp only [List.length_map]
  refine ⟨by omega, by omega, ?_⟩
  refine loopL_inv (fun i p M' => ∃ x2, p = [some (wsD ws), some (.ref h), x2, none, none] ∧ M' h = some (.dK (hdD (hdOf ws i))) ∧ Sub M M') (n := ws.length) (by simp [rangeD]) ?_ ?_ ⟨none, rfl, by simp [hdOf, heldF, hdD], (Sub.refl M).put hh⟩
  · rintro i d p M' R hd ⟨x2, rfl, mh, hsub⟩ hR
    have hi : i < ws.length := by
      have := (List.getElem?_eq_some_iff.mp hd).1
      simpa [rangeD] using this
    have ed : d = .int (i : Int) := by
      simp [rangeD, hi] at hd; exact hd.symm
    subst ed
    refine ⟨trivial, ?_⟩
    simp only [gNameD, List.set_cons_zero, List.set_cons_succ, qDrop, qCall, qCons, qNil, qVar, qDNew, List.getElem?_cons_zero, List.getElem?_cons_succ, List.append_nil]
    intro t ht
    have ne : h ≠ t := ne_of_some mh ht
    have I := hdOf_inv ws i (by omega)
    have ok := inv_okk I (by omega)
    have mh2 : put M' t (.dK []) h = some (.dK (hdD (hdOf ws i))) := by rw [put_ne ne]; exact mh
    have ll : left (hdOf ws i) [] < 64 := Nat.lt_of_le_of_lt (Nat.le_trans List.countP_le_length I.len) (by omega)
    refine ⟨ws, h, t, hdOf ws i, i, [], rfl, ne, mh2, by simp [trD], hi, ok, hfl, ll, ?_⟩
    have mt : M t = none := by
      cases e : M t with
      | none => rfl
      | some o => rw [hsub _ _ e] at ht; cases ht
    refine hR _ _ ⟨_, rfl, ?_, ?_⟩
    · rw [hdOf_succ]; exact st_h ne
    · exact (((hsub.put mt).put hh).put mt)
  · rintro p M' ⟨x2, rfl, mh, hsub⟩
    refine ⟨trivial, ?_⟩
    have I := hdOf_inv ws ws.length (by omega)
    -- pairs = [None for wish in wishes]
    simp only [qLc, qiAny, qVar, List.getElem?_cons_zero, List.getElem?_cons_succ]
    unfold wsD
    intro b hb
    have nhb := ne_of_some mh hb
    have mb : M b = none := by
      cases e : M b with
      | none => rfl
      | some o => rw [hsub _ _ e] at hb; cases hb
    refine compL_map hb (fun _ => some .non) (fun _ => trivial) (by simp; omega) (fun d hd acc R hR => ?_) ?_
    · simp only [gNameD, qYes, qC, if_true]; exact hR
    · simp only [if_true]
      rw [repl_non, ← wsD]
      simp only [qSeq, gNameD, List.set_cons_zero, List.set_cons_succ, qLock, selN, List.getElem?_cons_zero, List.getElem?_cons_succ]
      rw [put_ne nhb, mh]
      simp only
      intro ho
      simp only [qFor, qiItems, qVar, List.getElem?_cons_zero, List.getElem?_cons_succ, put_same]
      have pm : ∀ i, (put (put M' b (.lst (((hdOf ws ws.length).take i).foldl setP (List.replicate ws.length none) |>.map optD))) h (.lk ho (hdD (hdOf ws ws.length)))) b = some (.lst (((hdOf ws ws.length).take i).foldl setP (List.replicate ws.length none) |>.map optD)) := fun i => by
        rw [put_ne nhb.symm, put_same]
      refine loopL_inv (fun i p N => ∃ x2 x4, p = [some (wsD ws), some (.ref h), x2, some (.ref b), x4] ∧ N = put (put M' b (.lst (((hdOf ws ws.length).take i).foldl setP (List.replicate ws.length none) |>.map optD))) h (.lk ho (hdD (hdOf ws ws.length)))) (n := (hdOf ws ws.length).length) (by simp [hdD]) ?_ ?_ ⟨_, _, rfl, rfl⟩
      · rintro i d p N R hd ⟨x2, x4, rfl, rfl⟩ hR
        refine ⟨put_same, ?_⟩
        have hi : i < (hdOf ws ws.length).length := by
          have := (List.getElem?_eq_some_iff.mp hd).1
          simpa [hdD] using this
        have ed : d = .tup [kD (hdOf ws ws.length)[i].1, .int ((hdOf ws ws.length)[i].2 : Int)] := by
          simp [hdD, hi] at hd; exact hd.symm
        subst ed
        have hv : (hdOf ws ws.length)[i].2 < ws.length := inv_val I (k := (hdOf ws ws.length)[i].1) (List.getElem_mem hi)
        simp only [gTupD, res_tup, gConsD, gNilD, gNameD, List.set_cons_zero, List.set_cons_succ, List.length_cons, List.length_nil]
        refine ⟨trivial, trivial, ?_⟩
        simp only [qAsg, gSub_eq, qVar, List.getElem?_cons_zero, List.getElem?_cons_succ]
        rw [set_l (pm i) (j := (hdOf ws ws.length)[i].2) (by
          rw [List.length_map, fold_len, List.length_replicate]; unfold ixN; rw [if_pos (by omega), if_pos (by omega)]; simp)]
        refine hR _ _ ⟨_, _, rfl, ?_⟩
        rw [put_comm nhb, put_put]
        congr 3
        rw [List.take_succ, List.getElem?_eq_getElem hi]
        simp only [Option.toList_some, List.foldl_append, List.foldl_cons, List.foldl_nil, setP, List.map_set]
        rfl
      · rintro p N ⟨x2, x4, rfl, rfl⟩
        refine ⟨put_same, put_same, ?_⟩
        rw [put_put, List.take_length]
        have e0 : ((hdOf ws ws.length).foldl setP (List.replicate ws.length none)) = prsOf ws := rfl
        rw [e0]
        refine ht _ h b _ _ ?_ put_same ?_ mb hh nhb
        · exact (hsub.put mb).put hh
        · rw [put_ne nhb.symm, put_same]
theorem paired_ok (ds : List D) (M : Mst) (Q : DK) (Ed : DX → Mst → Prop) (hsp : upSp spPaired ds M Q Ed) : qPairedR spBand (spGets 64) (fun x _ M => Ed x M) (retE Q) (startD ["wishes", "held", "wish", "pairs", "holder"] ds) M := by
  obtain ⟨Q0, E0, ⟨ws, rfl, P, k⟩, kq, _⟩ := hsp
  refine paired_main P fun M' h b x2 x4 sub mh mb mb0 mh0 nhb => ?_
  simp only [qFrz, frz, List.getElem?_cons_zero, List.getElem?_cons_succ]
  rw [mb]
  simp only [List.set_cons_zero, List.set_cons_succ, qRet, qTup, qCons, qNil, qVar, qCall, List.getElem?_cons_zero, List.getElem?_cons_succ, List.append_nil]
  refine ⟨ws, heldOf ws, prsOf ws, h, _, rfl, .inl rfl, ?_, band_pre P, by simp, ?_⟩
  · unfold del; rw [if_neg nhb]; exact mh
  · refine kq _ _ _ (fun x o e => ?_) k
    have nx : x ≠ b := ne_of_some e mb0
    unfold del; rw [if_neg nx]; exact sub x o e
theorem pairedM_ok (ds : List D) (M : Mst) (Q : DK) (Ed : DX → Mst → Prop) (hsp : upSp spPairedM ds M Q Ed) : qPairedM (spBandG true) (spGets 64) (fun x _ M => Ed x M) (retE Q) (startD ["wishes", "held", "wish", "pairs", "holder"] ds) M := by
  obtain ⟨Q0, E0, ⟨ws, rfl, P, k⟩, kq, _⟩ := hsp
  refine paired_main P fun M' h b x2 x4 sub mh mb mb0 mh0 nhb => ?_
  simp only [qRet, qTup, qCons, qNil, qVar, qCall, List.getElem?_cons_zero, List.getElem?_cons_succ, List.append_nil]
  refine ⟨ws, heldOf ws, prsOf ws, h, _, rfl, .inr ⟨b, rfl, mb⟩, mh, band_pre P, fun c hc => ⟨by simp, ?_⟩⟩
  have ncb : b ≠ c := ne_of_some mb hc
  have mc : M c = none := by
    cases e : M c with
    | none => rfl
    | some o => rw [sub _ _ e] at hc; cases hc
  refine kq _ _ _ (fun x o e => ?_) (k b c ncb mb0 mc)
  by_cases z : x = c
  · subst z; rw [put_same] at e ⊢; exact e
  · rw [put_ne z] at e ⊢
    by_cases z2 : x = b
    · subst z2; rw [put_same] at e; cases e; exact mb
    · rw [put_ne z2] at e; exact sub _ _ e
end Pair

/-! PairE: what holds of the told pairs and band. -/
namespace Pair
open PySem L2 DL
instance memNat (k : Nat) (tr : List Nat) : Decidable (k ∈ tr) := inferInstance
theorem same_len {α : Type} [DecidableEq α] {l m : List α} (nl : l.Nodup) (nm : m.Nodup) (h : ∀ x, x ∈ l ↔ x ∈ m) : l.length = m.length :=
  Nat.le_antisymm (nodup_le nl fun x hx => (h x).mp hx) (nodup_le nm fun x hx => (h x).mpr hx)
theorem filter_two {α : Type} (p : α → Bool) : ∀ l : List α, (l.filter p).length + (l.filter fun x => !p x).length = l.length
  | [] => rfl
  | a :: l => by
    have := filter_two p l
    cases h : p a <;> simp [List.filter_cons, h] <;> omega
theorem nodup_vals {hd : Held Key} (one : ∀ v, cnt hd v ≤ 1) : (hd.map (·.2)).Nodup := by
  induction hd with
  | nil => simp
  | cons q hd ih =>
    rw [List.map_cons, List.nodup_cons]
    have one' : ∀ v, cnt hd v ≤ 1 := fun v => by
      have := one v; unfold cnt at this ⊢; rw [List.countP_cons] at this; omega
    refine ⟨fun h => ?_, ih one'⟩
    obtain ⟨x, h1, h2⟩ := List.mem_map.mp h
    have := one q.2
    unfold cnt at this
    rw [List.countP_cons] at this
    have p1 : 0 < hd.countP fun x => decide (x.2 = q.2) := List.countP_pos_iff.mpr ⟨x, h1, by simp [h2]⟩
    rw [if_pos (by simp)] at this
    omega
theorem cnt_iff {hd : Held Key} {v : Nat} : cnt hd v ≠ 0 ↔ ∃ k, (k, v) ∈ hd := by
  constructor
  · exact cnt_pos
  · rintro ⟨k, hk⟩ e
    have := List.countP_eq_zero.mp e (k, v) hk
    simp at this
theorem fold_count {κ : Type} [DecidableEq κ] : ∀ (hd : Held κ) (ps : List (Option κ)), (∀ q ∈ hd, ps[q.2]? = some none) → (∀ v, cnt hd v ≤ 1) → (hd.foldl setP ps).countP Option.isNone + hd.length = ps.countP Option.isNone
  | [], _, _, _ => rfl
  | q :: hd, ps, h, one => by
    have hq := h q (List.mem_cons_self ..)
    obtain ⟨hl, he⟩ := List.getElem?_eq_some_iff.mp hq
    have one' : ∀ v, cnt hd v ≤ 1 := fun v => by
      have := one v; unfold cnt at this ⊢; rw [List.countP_cons] at this; omega
    have ih := fold_count hd (setP ps q) (fun q' hq' => by
      have ne : q.2 ≠ q'.2 := fun e => by
        have := one q'.2
        unfold cnt at this
        rw [List.countP_cons] at this
        have p1 : 0 < hd.countP fun x => decide (x.2 = q'.2) := List.countP_pos_iff.mpr ⟨q', hq', by simp⟩
        rw [if_pos (by simp [e])] at this
        omega
      rw [setP, List.getElem?_set_ne ne]
      exact h q' (List.mem_cons_of_mem _ hq')) one'
    rw [List.foldl_cons, List.length_cons]
    have e : (setP ps q).countP Option.isNone + 1 = ps.countP Option.isNone := by
      unfold setP
      rw [List.countP_set hl, he]
      have p1 : 0 < ps.countP Option.isNone := List.countP_pos_iff.mpr ⟨ps[q.2], List.getElem_mem hl, by rw [he]; rfl⟩
      simp; omega
    omega
theorem count_none (ws : List (List Key)) (h : ws.length ≤ 63) : (prsOf ws).countP Option.isNone + (heldOf ws).length = ws.length := by
  have I := hdOf_inv ws ws.length (by omega)
  have := fold_count (heldOf ws) (List.replicate ws.length none) (fun q hq => by
    have := inv_val I (k := q.1) hq
    simp [this]) I.one
  unfold prsOf prsF
  rw [this, List.countP_replicate]; simp
theorem somes_len {κ : Type} : ∀ ps : List (Option κ), (ps.filterMap id).length + ps.countP Option.isNone = ps.length
  | [] => rfl
  | o :: ps => by
    have := somes_len ps
    cases o <;> simp <;> omega
theorem somes_nodup {κ : Type} : ∀ ps : List (Option κ), (∀ (i j : Nat) (k : κ), ps[i]? = some (some k) → ps[j]? = some (some k) → i = j) → (ps.filterMap id).Nodup
  | [], _ => List.nodup_nil
  | o :: ps, h => by
    have ih := somes_nodup ps fun i j k h1 h2 => by
      have := h (i + 1) (j + 1) k (by simpa using h1) (by simpa using h2); omega
    cases o with
    | none => simpa using ih
    | some k =>
      rw [List.filterMap_cons]
      show (k :: ps.filterMap id).Nodup
      rw [List.nodup_cons]
      refine ⟨fun hk => ?_, ih⟩
      obtain ⟨o, h1, h2⟩ := List.mem_filterMap.mp hk
      simp only [id] at h2; subst h2
      obtain ⟨j, hj⟩ := List.getElem?_of_mem h1
      have := h 0 (j + 1) k (by simp) (by simpa using hj)
      omega
/-! the holders that fit a band -/
def addK (tr : List Key) (k : Key) : List Key := if k ∈ tr then tr else tr ++ [k]
def addAll (tr w : List Key) : List Key := w.foldl addK tr
def fitOf (ws : List (List Key)) (band : List Nat) : List Key := band.foldl (fun tr v => addAll tr (ws_ ws v)) []
theorem mem_add {tr : List Key} {k x : Key} : x ∈ addK tr k ↔ x ∈ tr ∨ x = k := by
  unfold addK
  split
  · next h => exact ⟨.inl, fun h' => h'.elim id fun e => e ▸ h⟩
  · simp
theorem nodup_add {tr : List Key} {k : Key} (h : tr.Nodup) : (addK tr k).Nodup := by
  unfold addK
  split
  · exact h
  · next e => exact List.nodup_append.mpr ⟨h, by simp, fun x hx y hy => by simp at hy; subst hy; exact fun z => e (z ▸ hx)⟩
theorem mem_addAll : ∀ {w tr : List Key} {x : Key}, x ∈ addAll tr w ↔ x ∈ tr ∨ x ∈ w
  | [], tr, x => by simp [addAll]
  | k :: w, tr, x => by
    show x ∈ addAll (addK tr k) w ↔ _
    rw [mem_addAll, mem_add, List.mem_cons]
    constructor
    · rintro ((h | h) | h)
      · exact .inl h
      · exact .inr (.inl h)
      · exact .inr (.inr h)
    · rintro (h | h | h)
      · exact .inl (.inl h)
      · exact .inl (.inr h)
      · exact .inr h
theorem nodup_addAll : ∀ {w tr : List Key}, tr.Nodup → (addAll tr w).Nodup
  | [], tr, h => h
  | k :: w, tr, h => nodup_addAll (w := w) (tr := addK tr k) (nodup_add h)
theorem fit_gen (ws : List (List Key)) : ∀ (band : List Nat) (tr : List Key), tr.Nodup → (band.foldl (fun tr v => addAll tr (ws_ ws v)) tr).Nodup ∧ ∀ k, k ∈ band.foldl (fun tr v => addAll tr (ws_ ws v)) tr ↔ k ∈ tr ∨ ∃ v ∈ band, k ∈ ws_ ws v
  | [], tr, h => ⟨h, fun k => by simp⟩
  | v :: band, tr, h => by
    obtain ⟨h1, h2⟩ := fit_gen ws band (addAll tr (ws_ ws v)) (nodup_addAll h)
    refine ⟨h1, fun k => ?_⟩
    rw [List.foldl_cons, h2, mem_addAll]
    constructor
    · rintro ((h | h) | ⟨u, hu, h⟩)
      · exact .inl h
      · exact .inr ⟨v, List.mem_cons_self .., h⟩
      · exact .inr ⟨u, List.mem_cons_of_mem _ hu, h⟩
    · rintro (h | ⟨u, hu, h⟩)
      · exact .inl (.inl h)
      · rcases List.mem_cons.mp hu with rfl | hu
        · exact .inl (.inr h)
        · exact .inr ⟨u, hu, h⟩
/-- what is told is right -/
structure Told (ws : List (List Key)) (prs : List (Option Key)) (band : List Nat) : Prop where
  len : prs.length = ws.length
  fit : ∀ (v : Nat) (k : Key), prs[v]? = some (some k) → k ∈ ws_ ws v
  nd : (prs.filterMap id).Nodup
  up : band.Pairwise (· < ·)
  lt : ∀ v ∈ band, v < ws.length
  many : prs.length + (fitOf ws band).length = (prs.filterMap id).length + band.length
  no : (∀ v : Nat, prs[v]? ≠ some Option.none) → band = []
theorem told {ws : List (List Key)} (P : PairPre ws) : Told ws (prsOf ws) (bandOf ws) := by
  have few := P.few
  have I := hdOf_inv ws ws.length (by omega)
  have B := band_pre P
  have memB : ∀ v, v ∈ bandOf ws ↔ Reach ws (heldOf ws) (prsOf ws) v := fun v => by
    unfold bandOf bandL
    rw [List.mem_filter]
    constructor
    · rintro ⟨_, h⟩; exact @of_decide_eq_true _ (_) h
    · intro h; exact ⟨List.mem_range.mpr (reach_lt B h), @decide_eq_true _ (_) h⟩
  have upB : (bandOf ws).Pairwise (· < ·) := List.Pairwise.sublist List.filter_sublist List.pairwise_lt_range
  have ndB : (bandOf ws).Nodup := List.Nodup.sublist List.filter_sublist List.nodup_range
  have ps : ∀ (v : Nat) (k : Key), (prsOf ws)[v]? = some (some k) ↔ v < ws.length ∧ (k, v) ∈ heldOf ws := fun v k => prs_some I.one
  have pn : ∀ v : Nat, (prsOf ws)[v]? = some none ↔ v < ws.length ∧ cnt (heldOf ws) v = 0 := fun v => prs_none I.one
  refine ⟨prs_len _ _, fun v k h => I.fit _ _ ((ps v k).mp h).2, somes_nodup _ fun i j k h1 h2 => ?_, upB, fun v h => reach_lt B ((memB v).mp h), ?_, fun h => ?_⟩
  · have e1 := look_mem I.nd ((ps i k).mp h1).2
    have e2 := look_mem I.nd ((ps j k).mp h2).2
    rw [e1] at e2; cases e2; rfl
  · have c1 := count_none ws few
    have c2 := somes_len (prsOf ws)
    have pl : (prsOf ws).length = ws.length := prs_len _ _
    obtain ⟨nf, mf⟩ := fit_gen ws (bandOf ws) [] List.nodup_nil
    have mf' : ∀ k, k ∈ fitOf ws (bandOf ws) ↔ ∃ v ∈ bandOf ws, k ∈ ws_ ws v := fun k => by
      have := mf k
      unfold fitOf
      rw [this]; simp
    -- the held ones whose wish is in the band
    have ndk : ((heldOf ws).map (·.1)).Nodup := I.nd
    have V1 : (fitOf ws (bandOf ws)).length = ((heldOf ws).filter fun q => decide (q.2 ∈ bandOf ws)).length := by
      have := same_len (l := fitOf ws (bandOf ws)) (m := ((heldOf ws).filter fun q => decide (q.2 ∈ bandOf ws)).map (·.1)) nf (List.Nodup.sublist (List.Sublist.map _ List.filter_sublist) ndk) fun k => by
        rw [mf' k]
        constructor
        · rintro ⟨v, hv, hk⟩
          obtain ⟨j, hj⟩ := B.all v ((memB v).mp hv) k hk
          exact List.mem_map.mpr ⟨(k, j), List.mem_filter.mpr ⟨look_some hj, by simpa using (memB j).mpr (.step ((memB v).mp hv) hk hj)⟩, rfl⟩
        · intro h
          obtain ⟨⟨k', j⟩, h1, rfl⟩ := List.mem_map.mp h
          obtain ⟨h2, h3⟩ := List.mem_filter.mp h1
          exact ⟨j, by simpa using h3, I.fit _ _ h2⟩
      rw [this, List.length_map]
    have V2 : ((heldOf ws).filter fun q => decide (q.2 ∈ bandOf ws)).length = ((bandOf ws).filter fun v => decide (cnt (heldOf ws) v ≠ 0)).length := by
      have := same_len (l := ((heldOf ws).filter fun q => decide (q.2 ∈ bandOf ws)).map (·.2)) (m := (bandOf ws).filter fun v => decide (cnt (heldOf ws) v ≠ 0)) (List.Nodup.sublist (List.Sublist.map _ List.filter_sublist) (nodup_vals I.one)) (List.Nodup.sublist List.filter_sublist ndB) fun v => by
        constructor
        · intro h
          obtain ⟨⟨k, j⟩, h1, rfl⟩ := List.mem_map.mp h
          obtain ⟨h2, h3⟩ := List.mem_filter.mp h1
          exact List.mem_filter.mpr ⟨by simpa using h3, by simpa using cnt_iff.mpr ⟨k, h2⟩⟩
        · intro h
          obtain ⟨h1, h2⟩ := List.mem_filter.mp h
          obtain ⟨k, hk⟩ := cnt_iff.mp (by simpa using h2)
          exact List.mem_map.mpr ⟨(k, v), List.mem_filter.mpr ⟨hk, by simpa using h1⟩, rfl⟩
      rw [← this, List.length_map]
    have V3 : ((List.range ws.length).filter fun v => decide (cnt (heldOf ws) v ≠ 0)).length = (heldOf ws).length := by
      have := same_len (l := (List.range ws.length).filter fun v => decide (cnt (heldOf ws) v ≠ 0)) (m := (heldOf ws).map (·.2)) (List.Nodup.sublist List.filter_sublist List.nodup_range) (nodup_vals I.one) fun v => by
        constructor
        · intro h
          obtain ⟨h1, h2⟩ := List.mem_filter.mp h
          obtain ⟨k, hk⟩ := cnt_iff.mp (by simpa using h2)
          exact List.mem_map.mpr ⟨(k, v), hk, rfl⟩
        · intro h
          obtain ⟨⟨k, j⟩, h1, rfl⟩ := List.mem_map.mp h
          exact List.mem_filter.mpr ⟨List.mem_range.mpr (inv_val I h1), by simpa using cnt_iff.mpr ⟨k, h1⟩⟩
      rw [this, List.length_map]
    have V4 : ((bandOf ws).filter fun v => !decide (cnt (heldOf ws) v ≠ 0)).length = ((List.range ws.length).filter fun v => !decide (cnt (heldOf ws) v ≠ 0)).length :=
      same_len (List.Nodup.sublist List.filter_sublist ndB) (List.Nodup.sublist List.filter_sublist List.nodup_range) fun v => by
        rw [List.mem_filter, List.mem_filter]
        constructor
        · rintro ⟨h1, h2⟩; exact ⟨List.mem_range.mpr (reach_lt B ((memB v).mp h1)), h2⟩
        · rintro ⟨h1, h2⟩; exact ⟨(memB v).mpr (.base ((pn v).mpr ⟨List.mem_range.mp h1, by simpa using h2⟩)), h2⟩
    have f1 := filter_two (fun v => decide (cnt (heldOf ws) v ≠ 0)) (bandOf ws)
    have f2 := filter_two (fun v => decide (cnt (heldOf ws) v ≠ 0)) (List.range ws.length)
    rw [List.length_range] at f2
    omega
  · cases e : bandOf ws with
    | nil => rfl
    | cons v b =>
      have hv : v ∈ bandOf ws := by rw [e]; exact List.mem_cons_self ..
      have no : ∀ v, ¬ Reach ws (heldOf ws) (prsOf ws) v := fun v hr => by
        induction hr with
        | base hb => exact h _ hb
        | step _ _ _ ih => exact ih
      exact (no v ((memB v).mp hv)).elim
end Pair

/-! PairF: wishes that a law makes. -/
namespace Pair
open PySem L2 DL
def kk (ws : List (List Int)) : List (List Key) := ws.map fun w => w.map Sum.inl
theorem wD_i (w : List Int) : wD (w.map Sum.inl) = .lst (w.map D.int) := by
  unfold wD; rw [List.map_map]; rfl
theorem data_ws (ws : List (List Int)) : ((kk ws).map wD).all isData = true := List.all_eq_true.mpr fun x hx => by
  unfold kk at hx
  rw [List.map_map] at hx
  obtain ⟨w, _, rfl⟩ := List.mem_map.mp hx
  show isData (wD (w.map Sum.inl)) = true
  rw [wD_i, isData, isDataL_all]; exact data_ints w
theorem data_W (ws : List (List Int)) : isData (wsD (kk ws)) = true := by
  rw [wsD, isData, isDataL_all]; exact data_ws ws
theorem dep_W (ws : List (List Int)) : dep (wsD (kk ws)) ≤ 64 := by
  refine Nat.le_trans (dep_lst (n := 1) fun d hd => ?_) (by decide)
  unfold kk at hd
  rw [List.map_map] at hd
  obtain ⟨w, _, rfl⟩ := List.mem_map.mp hd
  show dep (wD (w.map Sum.inl)) ≤ 1
  rw [wD_i]
  exact dep_lst (n := 0) fun d hd => by
    obtain ⟨i, _, rfl⟩ := List.mem_map.mp hd
    rw [dep_flat rfl]; exact Nat.le_refl _
theorem pick {xs : List D} {r : Int} {P : D → Prop} (h0 : 0 ≤ r) (h1 : r < xs.length) (hP : ∀ x ∈ xs, P x) : ∃ x, atI xs r = some x ∧ P x := by
  obtain ⟨x, hx, hm⟩ := atI_some h0 h1
  exact ⟨x, hx, hP x hm⟩
theorem ints_of {P : Int → Prop} {ds : List D} {os : List (Option D)} (h : All2 (fun _ o => ∃ z : Int, o = some (.int z) ∧ P z) ds os) : ∃ w : List Int, os.filterMap id = w.map D.int ∧ w.length = ds.length ∧ ∀ z ∈ w, P z := by
  induction h with
  | nil => exact ⟨[], rfl, rfl, fun _ h => (by cases h)⟩
  | cons h _ ih =>
    obtain ⟨z, rfl, hz⟩ := h
    obtain ⟨w, e, l, a⟩ := ih
    exact ⟨z :: w, by simp [e], by simp [l], fun x hx => by
      rcases List.mem_cons.mp hx with rfl | hx
      · exact hz
      · exact a x hx⟩
def spWishes : DSp := fun ds M Q _ => ∃ (b : Addr) (m : Int), ds = [.ref b, .int m] ∧ M b = some .bag ∧ 0 ≤ m ∧ m ≤ 60 ∧ ∀ ws : List (List Int), (ws.length : Int) ≤ m → (∀ w ∈ ws, w.length ≤ 6) → Q (wsD (kk ws)) M
def qWishes (sp__law_take : DSp) : DTS :=
  (qSeq (qAsg (qTup (qCons (qOp dIx (qTup (qCons (qC (.int 3)) (qCons (qC (.int 9)) (qCons (qC (.int 60)) qNil)))) (qCall sp__law_take [] (qCons (qVar 0) (qCons (qC (.int 3)) qNil)))) (qCons (qCall sp__law_take [] (qCons (qVar 0) (qCons (qC (.int 52)) qNil))) qNil))) (gTupD 2 (gConsD (gNameD 2) (gConsD (gNameD 3) gNilD))))
  (qSeq (qAsg (qLst true qNil) (gNameD 4))
  (qSeq (qFor (qiRng1 (qCons (qCall sp__law_take [] (qCons (qVar 0) (qCons (qOp (dAdd false) (qVar 1) (qC (.int 1))) qNil))) qNil)) (gNameD 5)
  (qSeq (qAsg (qCall sp__law_take [] (qCons (qVar 0) (qCons (qOp dIx (qTup (qCons (qC (.int 3)) (qCons (qC (.int 7)) qNil))) (qCall sp__law_take [] (qCons (qVar 0) (qCons (qC (.int 2)) qNil)))) qNil))) (gNameD 6))
  (qDrop (qBM "list" mApp (qVar 4) (qCons (qLc false (qiRng1 (qCons (qVar 6) qNil)) (gNameD 7) qYes (qOp (dInt (fun _ j => 0 < j) fun i j => i % j) (qOp (dAdd false) (qVar 3) (qCall sp__law_take [] (qCons (qVar 0) (qCons (qVar 2) qNil)))) (qC (.int 60))) [7]) qNil)))))
  (qFrz 4 (qRet (qVar 4))))))
theorem wishes_ok (ds : List D) (M : Mst) (Q : DK) (Ed : DX → Mst → Prop) (h : upSp spWishes ds M Q Ed) : qWishes spTake (fun x _ M => Ed x M) (retE Q) (startD ["_law_bag_here", "_law_most_here", "_law_kinds", "_law_first", "_law_found", "_law_wish", "_law_many", "_law_k"] ds) M := by
  obtain ⟨Q0, E0, ⟨b, m, rfl, hb, m0, m1, k⟩, kq, _⟩ := h
  show qSeq _ _ _ _ [some (.ref b), some (.int m), none, none, none, none, none, none] M
  simp only [qWishes, qSeq, qAsg, qTup, qCons, qNil, qOp, qC, qCall, qVar, List.getElem?_cons_zero, List.getElem?_cons_succ, List.append_nil]
  refine ⟨by simp, b, 3, rfl, hb, by decide, by decide, fun r r0 r1 => ?_⟩
  obtain ⟨x, hx, kinds, rfl, k0, k1⟩ := pick (P := fun x => ∃ q : Int, x = .int q ∧ 0 < q ∧ q ≤ 60) r0 (xs := [.int 3, .int 9, .int 60]) (by simpa using r1) (by
    intro x hx
    simp only [List.mem_cons, List.not_mem_nil, or_false] at hx
    rcases hx with rfl | rfl | rfl <;> exact ⟨_, rfl, by decide, by decide⟩)
  rw [ix_t hx]
  refine ⟨b, 52, rfl, hb, by decide, by decide, fun first f0 f1 => ⟨by simp, ?_⟩⟩
  simp only [gTupD, res_tup, gConsD, gNilD, gNameD, List.set_cons_zero, List.set_cons_succ, List.length_cons, List.length_nil]
  refine ⟨trivial, trivial, ?_⟩
  simp only [qSeq, qAsg, gNameD, qLst, qNil, newL_t, qFor, qiRng1, qCons, qCall, qOp, qC, qVar, List.getElem?_cons_zero, List.getElem?_cons_succ, List.append_nil, dAdd_i, List.set_cons_zero, List.set_cons_succ]
  refine ⟨by simp, fun l hl => ?_⟩
  have nbl := ne_of_some hb hl
  have hbl : ∀ o, put M l o b = some .bag := fun o => by rw [put_ne nbl]; exact hb
  refine ⟨b, m + 1, rfl, hbl _, by omega, by omega, fun many n0 n1 => ⟨by omega, by omega, ?_⟩⟩
  refine loopL_inv (fun i p M' => ∃ ws x5 x6 x7, p = [some (.ref b), some (.int m), some (.int kinds), some (.int first), some (.ref l), x5, x6, x7] ∧ M' = put M l (.lst ((kk ws).map wD)) ∧ ws.length = i ∧ ∀ w ∈ ws, w.length ≤ 6) (n := many.toNat) (by simp [rangeD]) ?_ ?_ ⟨[], none, none, none, rfl, rfl, rfl, fun _ h => (by cases h)⟩
  · rintro i d p M' R hd ⟨ws, x5, x6, x7, rfl, rfl, hw, h6⟩ hR
    have hi : i < many.toNat := by
      have := (List.getElem?_eq_some_iff.mp hd).1
      simpa [rangeD] using this
    refine ⟨trivial, ?_⟩
    simp only [gNameD, List.set_cons_zero, List.set_cons_succ, qSeq, qAsg, qTup, qCons, qNil, qOp, qC, qCall, qVar, List.getElem?_cons_zero, List.getElem?_cons_succ, List.append_nil]
    refine ⟨by simp, b, 2, rfl, hbl _, by decide, by decide, fun r r0 r1 => ?_⟩
    obtain ⟨x, hx, mm, rfl, q0, q1⟩ := pick (P := fun x => ∃ q : Int, x = .int q ∧ 0 < q ∧ q ≤ 7) r0 (xs := [.int 3, .int 7]) (by simpa using r1) (by
      intro x hx
      simp only [List.mem_cons, List.not_mem_nil, or_false] at hx
      rcases hx with rfl | rfl <;> exact ⟨_, rfl, by decide, by decide⟩)
    rw [ix_t hx]
    refine ⟨b, mm, rfl, hbl _, by omega, by omega, fun z z0 z1 => ?_⟩
    simp only [qDrop, qBM, qVar, List.getElem?_cons_zero, List.getElem?_cons_succ, qCons, qNil, qLc, qiRng1]
    refine ⟨by rw [res_r put_same]; rfl, by omega, by omega, fun c hc => ?_⟩
    have nbc := ne_of_some (hbl _) hc
    refine compL_rel hc (fun _ o => ∃ z : Int, o = some (.int z) ∧ True) (fun _ => trivial) _ [] (by simp [rangeD]; omega) (fun d _ acc R2 hR2 => ?_) fun os hos => ?_
    · simp only [gNameD, wipeD, List.set_cons_zero, List.set_cons_succ, qYes, if_true, qOp, qVar, qC, qCall, qCons, qNil, List.getElem?_cons_zero, List.getElem?_cons_succ, List.append_nil]
      refine ⟨b, kinds, rfl, by rw [put_ne nbc]; exact hbl _, k0, by omega, fun y y0 y1 => ?_⟩
      simp only [dAdd_i, dInt_i]
      exact ⟨by decide, hR2 _ ⟨_, rfl, trivial⟩⟩
    · obtain ⟨w, ew, wl, _⟩ := ints_of hos
      simp only [List.nil_append, Bool.false_eq_true, if_false]
      rw [ew]
      unfold mApp
      simp only [put_same, put_put]
      have wl' : w.length ≤ 6 := by rw [wl]; simp [rangeD]; omega
      refine ⟨by simp [kk]; omega, hR _ _ ⟨ws ++ [w], _, _, _, rfl, ?_, by simp [hw], fun y hy => ?_⟩⟩
      · simp [kk, wD_i]
      · rcases List.mem_append.mp hy with hy | hy
        · exact h6 y hy
        · simp at hy; subst hy; exact wl'
  · rintro p M' ⟨ws, x5, x6, x7, rfl, rfl, hw, h6⟩
    refine ⟨trivial, ?_⟩
    simp only [qFrz, frz, List.getElem?_cons_zero, List.getElem?_cons_succ, put_same, List.set_cons_zero, List.set_cons_succ, qRet, qVar]
    rw [del_put hl]
    exact kq _ _ _ (Sub.refl _) (k ws (by omega) h6)
end Pair

namespace K11
open PySem L2 DL
def top (i : Nat) : Stmt := PySem.Challenge.pw_whistleboard_k11_paired.main.body.getD i (.Pass ⟨0, 0, 0, 0⟩)
abbrev s_gets_holder : Stmt := top 1
abbrev N_gets_holder : List Str := ["wishes", "held", "wish", "tried", "holder"]
theorem sc_gets_holder : FnScope N_gets_holder ["wishes", "held", "wish", "tried"] (defScope s_gets_holder) := ⟨rfl, rfl, rfl, by decide +kernel, rfl, by decide +kernel, by decide +kernel⟩
abbrev s_band_of : Stmt := top 2
abbrev N_band_of : List Str := ["wishes", "pairs", "held", "found", "waiting", "wish", "holder"]
theorem sc_band_of : FnScope N_band_of ["wishes", "pairs", "held"] (defScope s_band_of) := ⟨rfl, rfl, rfl, by decide +kernel, rfl, by decide +kernel, by decide +kernel⟩
abbrev s_paired : Stmt := top 3
abbrev N_paired : List Str := ["wishes", "held", "wish", "pairs", "holder"]
theorem sc_paired : FnScope N_paired ["wishes"] (defScope s_paired) := ⟨rfl, rfl, rfl, by decide +kernel, rfl, by decide +kernel, by decide +kernel⟩
abbrev s__law_bag : Stmt := top 5
abbrev N__law_bag : List Str := ["_law_script", "_law_at", "_law_cell", "_law_great", "_law_primes"]
theorem sc__law_bag : FnScope N__law_bag ["_law_script", "_law_at"] (defScope s__law_bag) := ⟨rfl, rfl, rfl, by decide +kernel, rfl, by decide +kernel, by decide +kernel⟩
abbrev s__law_take : Stmt := top 6
abbrev N__law_take : List Str := ["_law_bag_here", "_law_many", "_law_digit"]
theorem sc__law_take : FnScope N__law_take ["_law_bag_here", "_law_many"] (defScope s__law_take) := ⟨rfl, rfl, rfl, by decide +kernel, rfl, by decide +kernel, by decide +kernel⟩
abbrev s__law_wishes : Stmt := top 7
abbrev N__law_wishes : List Str := ["_law_bag_here", "_law_most", "_law_kinds", "_law_first", "_law_found", "_law_wish", "_law_many", "_law_k"]
theorem sc__law_wishes : FnScope N__law_wishes ["_law_bag_here", "_law_most"] (defScope s__law_wishes) := ⟨rfl, rfl, rfl, by decide +kernel, rfl, by decide +kernel, by decide +kernel⟩
abbrev s__law_where : Stmt := top 8
abbrev N__law_where : List Str := ["_law_wants", "_law_given", "_law_pairs", "_law_band", "_law_wish", "_law_holder", "_law_some", "_law_fit", "_law_one", "_law_k"]
theorem sc__law_where : FnScope N__law_where ["_law_wants", "_law_given"] (defScope s__law_where) := ⟨rfl, rfl, rfl, by decide +kernel, rfl, by decide +kernel, by decide +kernel⟩
abbrev s__law_whole : Stmt := top 9
abbrev N__law_whole : List Str := ["_law_given"]
theorem sc__law_whole : FnScope N__law_whole ["_law_given"] (defScope s__law_whole) := ⟨rfl, rfl, rfl, by decide +kernel, rfl, by decide +kernel, by decide +kernel⟩
abbrev s__law_copied : Stmt := top 10
abbrev N__law_copied : List Str := ["_law_given", "_law_found", "_law_one"]
theorem sc__law_copied : FnScope N__law_copied ["_law_given"] (defScope s__law_copied) := ⟨rfl, rfl, rfl, by decide +kernel, rfl, by decide +kernel, by decide +kernel⟩
abbrev s_law : Stmt := top 11
abbrev N_law : List Str := ["_law_script", "_law_k", "_law_wants", "_law_turn", "_law_handed", "_law_told", "_law_kept"]
theorem sc_law : FnScope N_law ["_law_script"] (defScope s_law) := ⟨rfl, rfl, rfl, by decide +kernel, rfl, by decide +kernel, by decide +kernel⟩
structure Tx (K : PySem.W.Frag) (mg : Str → Option Value) where
  f_gets_holder : FnAt K mg "gets_holder" s_gets_holder ["wishes", "held", "wish", "tried"]
  f_band_of : FnAt K mg "band_of" s_band_of ["wishes", "pairs", "held"]
  f_paired : FnAt K mg "paired" s_paired ["wishes"]
  f__law_bag : FnAt K mg "_law_bag" s__law_bag ["_law_script", "_law_at"]
  f__law_take : FnAt K mg "_law_take" s__law_take ["_law_bag_here", "_law_many"]
  f__law_wishes : FnAt K mg "_law_wishes" s__law_wishes ["_law_bag_here", "_law_most"]
  f__law_where : FnAt K mg "_law_where" s__law_where ["_law_wants", "_law_given"]
  f__law_whole : FnAt K mg "_law_whole" s__law_whole ["_law_given"]
  f__law_copied : FnAt K mg "_law_copied" s__law_copied ["_law_given"]
  f_law : FnAt K mg "law" s_law ["_law_script"]
  n_abs : mg "abs" = none
  n_all : mg "all" = none
  n_bool : mg "bool" = none
  n_enumerate : mg "enumerate" = none
  n_int : mg "int" = none
  n_isinstance : mg "isinstance" = none
  n_len : mg "len" = none
  n_list : mg "list" = none
  n_max : mg "max" = none
  n_min : mg "min" = none
  n_range : mg "range" = none
  n_sorted : mg "sorted" = none
  n_tuple : mg "tuple" = none
  n_zip : mg "zip" = none
  kw_paired_0_wishes : KwB K f_paired.fd ["wishes"] 0 ["wishes"] [0]
section
variable {P : Program} {w : World} {K : PySem.W.Frag} {mg : Str → Option Value} {base : Heap}
def q_gets_holder (sp_gets_holder : DSp) : DTS :=
  (qSeq (qFor (qiAny (qOp dIx (qVar 0) (qVar 2))) (gNameD 4)
  (qIfS (qTB (qOp (dIn true) (qVar 4) (qVar 3)))
  (qSeq (qAsg (qC (.bl true)) (gSubD (qVar 3) (qVar 4)))
  (qIfS (qOr (qTB (qOp (dIn true) (qVar 4) (qVar 1))) (qTB (qCall sp_gets_holder [] (qCons (qVar 0) (qCons (qVar 1) (qCons (qOp dIx (qVar 1) (qVar 4)) (qCons (qVar 3) qNil)))))))
  (qSeq (qAsg (qVar 2) (gSubD (qVar 1) (qVar 4)))
  (qRet (qC (.bl true))))
  qNext))
  qNext))
  (qRet (qC (.bl false))))
theorem dv_gets_holder {k : Nat} (T : Tx K mg) {sp_gets_holder : DSp} (G_gets_holder : FnOk P w K mg base (L2.CX P w) k T.f_gets_holder.f T.f_gets_holder.fd ["wishes", "held", "wish", "tried"] (toSp K sp_gets_holder)) {p : DSp} (hlen : ∀ ds M Q E, p ds M Q E → ds.length = 4)
    (hs : ∀ ds M Q Ed, upSp p ds M Q Ed → q_gets_holder sp_gets_holder (fun x _ M => Ed x M) (retE Q) (startD N_gets_holder ds) M) : FnOk P w K mg base (L2.CX P w) (k + 1) T.f_gets_holder.f T.f_gets_holder.fd ["wishes", "held", "wish", "tried"] (toSp K p) := by
  refine (fn_ok (p := upSp p) T.f_gets_holder.F sc_gets_holder (fun ds M Q E ⟨Q0, E0, h, _⟩ => hlen ds M Q0 E0 h) fun cdv A outer s H E hr tk hp => ?_).imp fun _ _ _ _ h => imp_up h
  have nd := sc_gets_holder.nd
  have hu64 := hr.units
  have hu := Nat.lt_of_le_of_lt (Nat.add_le_add_left (show 1 ≤ 64 by decide) _) hu64
  exact ⟨_, q_gets_holder sp_gets_holder, (qss_cons (qs_for (ix := [4]) hp rfl (qi_any (q_ix hu (qv 0) (qv 2))) (qg_nm 4 nd)
  (qss_one (qs_if (qt_cmp (o_notin hu) (qv 4) (qv 3))
  (qss_cons (qs_asg (ix := []) q_bl (qg_sub hu (qv 3) (qv 4)))
  (qss_one (qs_if (QW.t (qw_or (qt_cmp (o_notin hu) (qv 4) (qv 1)) (qw_or1 (qt_val (q_call G_gets_holder hr tk rfl T.f_gets_holder.g T.f_gets_holder.F.kp T.f_gets_holder.b .nil (fun _ => rfl) (qa_cons (qv 0) (qa_cons (qv 1) (qa_cons (q_ix hu (qv 1) (qv 4)) (qa_cons (qv 3) qa_nil)))))))))
  (qss_cons (qs_asg (ix := []) (qv 2) (qg_sub hu (qv 1) (qv 4)))
  (qss_one (qs_ret q_bl)))
  qss_nil)))
  qss_nil)))
  (qss_one (qs_ret q_bl))), hs⟩
def q_band_of : DTS :=
  (qSeq (qAsg qDNew (gNameD 3))
  (qSeq (qAsg (qLc true (qiEnum (qCons (qVar 1) qNil)) (gTupD 2 (gConsD (gNameD 5) (gConsD (gNameD 6) gNilD))) (qTB (qOp (dIs false) (qVar 6) (qC .non))) (qVar 5) [5, 6]) (gNameD 4))
  (qSeq (qWhile (qTB (qOp (dEq true) (qVar 4) (qLst false qNil)))
  (qSeq (qAsg (qBM0 "list" mPop (qVar 4)) (gNameD 5))
  (qIfS (qTB (qOp (dIn true) (qVar 5) (qVar 3)))
  (qSeq (qAsg (qC (.bl true)) (gSubD (qVar 3) (qVar 5)))
  (qAug 4 (qLc false (qiAny (qOp dIx (qVar 0) (qVar 5))) (gNameD 6) qYes (qOp dIx (qVar 2) (qVar 6)) [6]) dAug))
  qNext)))
  (qRet (qCB (dSorted true) (qCons (qVar 3) qNil))))))
theorem dv_band_of {k : Nat} (T : Tx K mg) {p : DSp} (hlen : ∀ ds M Q E, p ds M Q E → ds.length = 3)
    (hs : ∀ ds M Q Ed, upSp p ds M Q Ed → q_band_of (fun x _ M => Ed x M) (retE Q) (startD N_band_of ds) M) : FnOk P w K mg base (L2.CX P w) (k + 1) T.f_band_of.f T.f_band_of.fd ["wishes", "pairs", "held"] (toSp K p) := by
  refine (fn_ok (p := upSp p) T.f_band_of.F sc_band_of (fun ds M Q E ⟨Q0, E0, h, _⟩ => hlen ds M Q0 E0 h) fun cdv A outer s H E hr tk hp => ?_).imp fun _ _ _ _ h => imp_up h
  have nd := sc_band_of.nd
  have hu64 := hr.units
  have hu := Nat.lt_of_le_of_lt (Nat.add_le_add_left (show 1 ≤ 64 by decide) _) hu64
  exact ⟨_, q_band_of, (qss_cons (qs_setN 3 nd q_dnew)
  (qss_cons (qs_setLcX (own := [("wish", 5), ("holder", 6)]) true 4 rfl nd (qi_enum rfl T.n_enumerate (qa_cons (qv 1) qa_nil)) (blkOk_by (own := [("wish", 5), ("holder", 6)]) (N := N_band_of) (sc := defScope s_band_of) (by decide +kernel)) (fun _ _ _ _ _ => ⟨_, (qg_tup rfl (qgs_cons (qg_nm 5 nd) (qgs_cons (qg_nm 6 nd) qgs_nil)))⟩) (fun _ _ _ _ _ => ⟨_, (qts_one (qt_cmp o_is (qv 6) q_non))⟩) (fun _ _ _ _ _ => ⟨_, (qv 5)⟩))
  (qss_cons (qs_while hp (qt_cmp (o_ne hu64) (qv 4) (q_lst false qa_nil))
  (qss_cons (qs_setN 5 nd (q_bm0 PySem.F.plainAttrs_list PySem.F.slot_list_pop PySem.F.type_list_pop m_pop (qv 4)))
  (qss_one (qs_if (qt_cmp (o_notin hu) (qv 5) (qv 3))
  (qss_cons (qs_asg (ix := []) q_bl (qg_sub hu (qv 3) (qv 5)))
  (qss_one (qs_augN 4 nd (q_lcX (own := [("holder", 6)]) false rfl nd (qi_any (q_ix hu (qv 0) (qv 5))) (blkOk_by (own := [("holder", 6)]) (N := N_band_of) (sc := defScope s_band_of) (by decide +kernel)) (fun _ _ _ _ _ => ⟨_, (qg_nm 6 nd)⟩) (fun _ _ _ _ _ => ⟨_, qts_nil⟩) (fun _ _ _ _ _ => ⟨_, (q_ix hu (qv 2) (qv 6))⟩)))))
  qss_nil))))
  (qss_one (qs_ret (q_callB (c_sorted true rfl) rfl T.n_sorted (by decide +kernel) (qa_cons (qv 3) qa_nil))))))), hs⟩
def q_paired (sp_band_of : DSp) (sp_gets_holder : DSp) : DTS :=
  (qSeq (qAsg qDNew (gNameD 1))
  (qSeq (qFor (qiRng1 (qCons (qCB dLen (qCons (qVar 0) qNil)) qNil)) (gNameD 2)
  (qDrop (qCall sp_gets_holder [] (qCons (qVar 0) (qCons (qVar 1) (qCons (qVar 2) (qCons qDNew qNil)))))))
  (qSeq (qAsg (qLc true (qiAny (qVar 0)) (gNameD 2) qYes (qC .non) [2]) (gNameD 3))
  (qSeq (qLock (selN 1) (qFor (qiItems (qVar 1)) (gTupD 2 (gConsD (gNameD 4) (gConsD (gNameD 2) gNilD)))
  (qAsg (qVar 4) (gSubD (qVar 3) (qVar 2)))))
  (qRet (qTup (qCons (qVar 3) (qCons (qCall sp_band_of [] (qCons (qVar 0) (qCons (qVar 3) (qCons (qVar 1) qNil)))) qNil))))))))
theorem dv_paired {k : Nat} (T : Tx K mg) {sp_band_of : DSp} (G_band_of : FnOk P w K mg base (L2.CX P w) k T.f_band_of.f T.f_band_of.fd ["wishes", "pairs", "held"] (toSp K sp_band_of)) {sp_gets_holder : DSp} (G_gets_holder : FnOk P w K mg base (L2.CX P w) k T.f_gets_holder.f T.f_gets_holder.fd ["wishes", "held", "wish", "tried"] (toSp K sp_gets_holder)) {p : DSp} (hlen : ∀ ds M Q E, p ds M Q E → ds.length = 1)
    (hs : ∀ ds M Q Ed, upSp p ds M Q Ed → q_paired sp_band_of sp_gets_holder (fun x _ M => Ed x M) (retE Q) (startD N_paired ds) M) : FnOk P w K mg base (L2.CX P w) (k + 1) T.f_paired.f T.f_paired.fd ["wishes"] (toSp K p) := by
  refine (fn_ok (p := upSp p) T.f_paired.F sc_paired (fun ds M Q E ⟨Q0, E0, h, _⟩ => hlen ds M Q0 E0 h) fun cdv A outer s H E hr tk hp => ?_).imp fun _ _ _ _ h => imp_up h
  have nd := sc_paired.nd
  have hu64 := hr.units
  have hu := Nat.lt_of_le_of_lt (Nat.add_le_add_left (show 1 ≤ 64 by decide) _) hu64
  exact ⟨_, q_paired sp_band_of sp_gets_holder, (qss_cons (qs_setN 1 nd q_dnew)
  (qss_cons (qs_for (ix := [2]) hp rfl (qi_range1 rfl T.n_range (qa_cons (q_callB c_len rfl T.n_len (by decide +kernel) (qa_cons (qv 0) qa_nil)) qa_nil)) (qg_nm 2 nd)
  (qss_one (qs_expr (q_call G_gets_holder hr tk rfl T.f_gets_holder.g T.f_gets_holder.F.kp T.f_gets_holder.b .nil (fun _ => rfl) (qa_cons (qv 0) (qa_cons (qv 1) (qa_cons (qv 2) (qa_cons q_dnew qa_nil))))))))
  (qss_cons (qs_setLcX (own := [("wish", 2)]) true 3 rfl nd (qi_any (qv 0)) (blkOk_by (own := [("wish", 2)]) (N := N_paired) (sc := defScope s_paired) (by decide +kernel)) (fun _ _ _ _ _ => ⟨_, (qg_nm 2 nd)⟩) (fun _ _ _ _ _ => ⟨_, qts_nil⟩) (fun _ _ _ _ _ => ⟨_, q_non⟩))
  (qss_cons (qs_lock (sel := (selN 1)) (qs_for (ix := [4, 2]) hp rfl (qi_items (qv 1)) (qg_tup rfl (qgs_cons (qg_nm 4 nd) (qgs_cons (qg_nm 2 nd) qgs_nil)))
  (qss_one (qs_asg (ix := []) (qv 4) (qg_sub hu (qv 3) (qv 2))))))
  (qss_one (qs_ret (q_tup (qa_cons (qv 3) (qa_cons (q_call G_band_of hr tk rfl T.f_band_of.g T.f_band_of.F.kp T.f_band_of.b .nil (fun _ => rfl) (qa_cons (qv 0) (qa_cons (qv 3) (qa_cons (qv 1) qa_nil)))) qa_nil))))))))), hs⟩
def q__law_bag : DTS :=
  (qSeq (qAsg (qC (.int 0)) (gNameD 2))
  (qSeq (qIfS (qTB (qOp (dCmpI fun i j => decide (j < i)) (qCB dLen (qCons (qVar 0) qNil)) (qC (.int 0))))
  (qAsg (qOp dIx (qVar 0) (qOp (dInt (fun _ j => 0 < j) fun i j => i % j) (qVar 1) (qCB dLen (qCons (qVar 0) qNil)))) (gNameD 2))
  qNext)
  (qSeq (qAsg (qC (.int 0)) (gNameD 3))
  (qSeq (qIfS (qAnd (qTB (qOp (dCmpI fun i j => decide (j ≤ i)) (qCB dAbs (qCons (qVar 2) qNil)) (qOp (dInt CPow fun i j => i ^ j.toNat) (qC (.int 10)) (qC (.int 18))))) (qTB (qOp (dCmpI fun i j => decide (i < j)) (qVar 1) (qCB dLen (qCons (qVar 0) qNil)))))
  (qAsg (qCB dAbs (qCons (qVar 2) qNil)) (gNameD 3))
  qNext)
  (qSeq (qAsg (qTup (qCons (qC (.int 2147483629)) (qCons (qC (.int 2147483587)) (qCons (qC (.int 2147483579)) (qCons (qC (.int 2147483563)) (qCons (qC (.int 2147483549)) (qCons (qC (.int 2147483543)) (qCons (qC (.int 2147483497)) (qCons (qC (.int 2147483489)) qNil))))))))) (gNameD 4))
  (qRet (qLst true (qCons (qVar 3) (qCons (qOp (dInt (fun _ j => 0 < j) fun i j => i % j) (qOp (dInt CPow fun i j => i ^ j.toNat) (qOp (dAdd false) (qOp (dAdd false) (qOp (dInt (fun _ j => 0 < j) fun i j => i % j) (qVar 2) (qC (.int 2147483647))) (qOp (dInt CMul fun i j => i * j) (qC (.int 104729)) (qVar 1))) (qC (.int 7))) (qC (.int 5))) (qOp dIx (qVar 4) (qOp (dInt (fun _ j => 0 < j) fun i j => i % j) (qVar 1) (qC (.int 8))))) qNil)))))))))
theorem dv__law_bag {k : Nat} (T : Tx K mg) {p : DSp} (hlen : ∀ ds M Q E, p ds M Q E → ds.length = 2)
    (hs : ∀ ds M Q Ed, upSp p ds M Q Ed → q__law_bag (fun x _ M => Ed x M) (retE Q) (startD N__law_bag ds) M) : FnOk P w K mg base (L2.CX P w) (k + 1) T.f__law_bag.f T.f__law_bag.fd ["_law_script", "_law_at"] (toSp K p) := by
  refine (fn_ok (p := upSp p) T.f__law_bag.F sc__law_bag (fun ds M Q E ⟨Q0, E0, h, _⟩ => hlen ds M Q0 E0 h) fun cdv A outer s H E hr tk hp => ?_).imp fun _ _ _ _ h => imp_up h
  have nd := sc__law_bag.nd
  have hu64 := hr.units
  have hu := Nat.lt_of_le_of_lt (Nat.add_le_add_left (show 1 ≤ 64 by decide) _) hu64
  exact ⟨_, q__law_bag, (qss_cons (qs_setN 2 nd q_int)
  (qss_cons (qs_if (qt_cmp o_gt (q_callB c_len rfl T.n_len (by decide +kernel) (qa_cons (qv 0) qa_nil)) q_int)
  (qss_one (qs_setN 2 nd (q_ix hu (qv 0) (q_op o_mod (qv 1) (q_callB c_len rfl T.n_len (by decide +kernel) (qa_cons (qv 0) qa_nil))))))
  qss_nil)
  (qss_cons (qs_setN 3 nd q_int)
  (qss_cons (qs_if (QW.t (qw_and (qt_cmp o_ge (q_callB c_abs rfl T.n_abs (by decide +kernel) (qa_cons (qv 2) qa_nil)) (q_op o_pow q_int q_int)) (qw_and1 (qt_cmp o_lt (qv 1) (q_callB c_len rfl T.n_len (by decide +kernel) (qa_cons (qv 0) qa_nil))))))
  (qss_one (qs_setN 3 nd (q_callB c_abs rfl T.n_abs (by decide +kernel) (qa_cons (qv 2) qa_nil))))
  qss_nil)
  (qss_cons (qs_setN 4 nd (q_tup (qa_cons q_int (qa_cons q_int (qa_cons q_int (qa_cons q_int (qa_cons q_int (qa_cons q_int (qa_cons q_int (qa_cons q_int qa_nil))))))))))
  (qss_one (qs_ret (q_lst true (qa_cons (qv 3) (qa_cons (q_op o_mod (q_op o_pow (q_op (o_add false) (q_op (o_add false) (q_op o_mod (qv 2) q_int) (q_op o_mulI q_int (qv 1))) q_int) q_int) (q_ix hu (qv 4) (q_op o_mod (qv 1) q_int))) qa_nil)))))))))), hs⟩
def q__law_take : DTS :=
  (qSeq (qIfS (qTB (qOp (dCmpI fun i j => decide (j < i)) (qOp dIx (qVar 0) (qC (.int 0))) (qC (.int 0))))
  (qSeq (qAsg (qOp (dInt (fun _ j => 0 < j) fun i j => i % j) (qOp dIx (qVar 0) (qC (.int 0))) (qVar 1)) (gNameD 2))
  (qSeq (qAsg (qOp (dInt CDiv fun i j => i / j) (qOp dIx (qVar 0) (qC (.int 0))) (qVar 1)) (gSubD (qVar 0) (qC (.int 0))))
  (qRet (qVar 2))))
  qNext)
  (qSeq (qAsg (qOp (dInt (fun _ j => 0 < j) fun i j => i % j) (qOp (dAdd false) (qOp (dInt CMul fun i j => i * j) (qOp dIx (qVar 0) (qC (.int 1))) (qC (.int 48271))) (qC (.int 11))) (qC (.int 2147483647))) (gSubD (qVar 0) (qC (.int 1))))
  (qRet (qOp (dInt (fun _ j => 0 < j) fun i j => i % j) (qOp (dInt (fun _ j => 0 < j) fun i j => i % j) (qOp (dInt CPow fun i j => i ^ j.toNat) (qOp (dInt CDiv fun i j => i / j) (qOp dIx (qVar 0) (qC (.int 1))) (qC (.int 8))) (qC (.int 3))) (qC (.int 2147483629))) (qVar 1)))))
theorem dv__law_take {k : Nat} (T : Tx K mg) {p : DSp} (hlen : ∀ ds M Q E, p ds M Q E → ds.length = 2)
    (hs : ∀ ds M Q Ed, upSp p ds M Q Ed → q__law_take (fun x _ M => Ed x M) (retE Q) (startD N__law_take ds) M) : FnOk P w K mg base (L2.CX P w) (k + 1) T.f__law_take.f T.f__law_take.fd ["_law_bag_here", "_law_many"] (toSp K p) := by
  refine (fn_ok (p := upSp p) T.f__law_take.F sc__law_take (fun ds M Q E ⟨Q0, E0, h, _⟩ => hlen ds M Q0 E0 h) fun cdv A outer s H E hr tk hp => ?_).imp fun _ _ _ _ h => imp_up h
  have nd := sc__law_take.nd
  have hu64 := hr.units
  have hu := Nat.lt_of_le_of_lt (Nat.add_le_add_left (show 1 ≤ 64 by decide) _) hu64
  exact ⟨_, q__law_take, (qss_cons (qs_if (qt_cmp o_gt (q_ix hu (qv 0) q_int) q_int)
  (qss_cons (qs_setN 2 nd (q_op o_mod (q_ix hu (qv 0) q_int) (qv 1)))
  (qss_cons (qs_asg (ix := []) (q_op o_fdiv (q_ix hu (qv 0) q_int) (qv 1)) (qg_sub hu (qv 0) q_int))
  (qss_one (qs_ret (qv 2)))))
  qss_nil)
  (qss_cons (qs_asg (ix := []) (q_op o_mod (q_op (o_add false) (q_op o_mulI (q_ix hu (qv 0) q_int) q_int) q_int) q_int) (qg_sub hu (qv 0) q_int))
  (qss_one (qs_ret (q_op o_mod (q_op o_mod (q_op o_pow (q_op o_fdiv (q_ix hu (qv 0) q_int) q_int) q_int) q_int) (qv 1)))))), hs⟩
def q__law_wishes (sp__law_take : DSp) : DTS :=
  (qSeq (qAsg (qTup (qCons (qOp dIx (qTup (qCons (qC (.int 3)) (qCons (qC (.int 9)) (qCons (qC (.int 60)) qNil)))) (qCall sp__law_take [] (qCons (qVar 0) (qCons (qC (.int 3)) qNil)))) (qCons (qCall sp__law_take [] (qCons (qVar 0) (qCons (qC (.int 52)) qNil))) qNil))) (gTupD 2 (gConsD (gNameD 2) (gConsD (gNameD 3) gNilD))))
  (qSeq (qAsg (qLst true qNil) (gNameD 4))
  (qSeq (qFor (qiRng1 (qCons (qCall sp__law_take [] (qCons (qVar 0) (qCons (qOp (dAdd false) (qVar 1) (qC (.int 1))) qNil))) qNil)) (gNameD 5)
  (qSeq (qAsg (qCall sp__law_take [] (qCons (qVar 0) (qCons (qOp dIx (qTup (qCons (qC (.int 3)) (qCons (qC (.int 7)) qNil))) (qCall sp__law_take [] (qCons (qVar 0) (qCons (qC (.int 2)) qNil)))) qNil))) (gNameD 6))
  (qDrop (qBM "list" mApp (qVar 4) (qCons (qLc false (qiRng1 (qCons (qVar 6) qNil)) (gNameD 7) qYes (qOp (dInt (fun _ j => 0 < j) fun i j => i % j) (qOp (dAdd false) (qVar 3) (qCall sp__law_take [] (qCons (qVar 0) (qCons (qVar 2) qNil)))) (qC (.int 60))) [7]) qNil)))))
  (qFrz 4 (qRet (qVar 4))))))
theorem dv__law_wishes {k : Nat} (T : Tx K mg) {sp__law_take : DSp} (G__law_take : FnOk P w K mg base (L2.CX P w) k T.f__law_take.f T.f__law_take.fd ["_law_bag_here", "_law_many"] (toSp K sp__law_take)) {p : DSp} (hlen : ∀ ds M Q E, p ds M Q E → ds.length = 2)
    (hs : ∀ ds M Q Ed, upSp p ds M Q Ed → q__law_wishes sp__law_take (fun x _ M => Ed x M) (retE Q) (startD N__law_wishes ds) M) : FnOk P w K mg base (L2.CX P w) (k + 1) T.f__law_wishes.f T.f__law_wishes.fd ["_law_bag_here", "_law_most"] (toSp K p) := by
  refine (fn_ok (p := upSp p) T.f__law_wishes.F sc__law_wishes (fun ds M Q E ⟨Q0, E0, h, _⟩ => hlen ds M Q0 E0 h) fun cdv A outer s H E hr tk hp => ?_).imp fun _ _ _ _ h => imp_up h
  have nd := sc__law_wishes.nd
  have hu64 := hr.units
  have hu := Nat.lt_of_le_of_lt (Nat.add_le_add_left (show 1 ≤ 64 by decide) _) hu64
  exact ⟨_, q__law_wishes sp__law_take, (qss_cons (qs_asg (ix := [2, 3]) (q_tup (qa_cons (q_ix hu (q_tup (qa_cons q_int (qa_cons q_int (qa_cons q_int qa_nil)))) (q_call G__law_take hr tk rfl T.f__law_take.g T.f__law_take.F.kp T.f__law_take.b .nil (fun _ => rfl) (qa_cons (qv 0) (qa_cons q_int qa_nil)))) (qa_cons (q_call G__law_take hr tk rfl T.f__law_take.g T.f__law_take.F.kp T.f__law_take.b .nil (fun _ => rfl) (qa_cons (qv 0) (qa_cons q_int qa_nil))) qa_nil))) (qg_tup rfl (qgs_cons (qg_nm 2 nd) (qgs_cons (qg_nm 3 nd) qgs_nil))))
  (qss_cons (qs_setN 4 nd (q_lst true qa_nil))
  (qss_cons (qs_for (ix := [5]) hp rfl (qi_range1 rfl T.n_range (qa_cons (q_call G__law_take hr tk rfl T.f__law_take.g T.f__law_take.F.kp T.f__law_take.b .nil (fun _ => rfl) (qa_cons (qv 0) (qa_cons (q_op (o_add false) (qv 1) q_int) qa_nil))) qa_nil)) (qg_nm 5 nd)
  (qss_cons (qs_setN 6 nd (q_call G__law_take hr tk rfl T.f__law_take.g T.f__law_take.F.kp T.f__law_take.b .nil (fun _ => rfl) (qa_cons (qv 0) (qa_cons (q_ix hu (q_tup (qa_cons q_int (qa_cons q_int qa_nil))) (q_call G__law_take hr tk rfl T.f__law_take.g T.f__law_take.F.kp T.f__law_take.b .nil (fun _ => rfl) (qa_cons (qv 0) (qa_cons q_int qa_nil)))) qa_nil))))
  (qss_one (qs_expr (q_bm PySem.F.plainAttrs_list PySem.F.slot_list_append PySem.F.type_list_append m_append (qv 4) (qa_cons (q_lcX (own := [("_law_k", 7)]) false rfl nd (qi_range1 rfl T.n_range (qa_cons (qv 6) qa_nil)) (blkOk_by (own := [("_law_k", 7)]) (N := N__law_wishes) (sc := defScope s__law_wishes) (by decide +kernel)) (fun _ _ _ _ _ => ⟨_, (qg_nm 7 nd)⟩) (fun _ _ _ _ _ => ⟨_, qts_nil⟩) (fun _ _ _ _ _ => ⟨_, (q_op o_mod (q_op (o_add false) (qv 3) (q_call G__law_take hr takes0 rfl T.f__law_take.g T.f__law_take.F.kp T.f__law_take.b .nil (fun _ => rfl) (qa_cons (qv 0) (qa_cons (qv 2) qa_nil)))) q_int)⟩)) qa_nil))))))
  (qss_one (qs_frz 4 (qs_ret (qv 4))))))), hs⟩
def q__law_where (sp__law_whole : DSp) : DTS :=
  (qSeq (qIfS (qOr (qNot (qTB (qCB dIsi (qCons (qVar 1) (qCons (qC (.ty "tuple")) qNil))))) (qTB (qOp (dEq true) (qCB dLen (qCons (qVar 1) qNil)) (qC (.int 2)))))
  (qRet (qC (.str (PySem.Str.ofString "paper"))))
  qNext)
  (qSeq (qIfS (qNot (qTB (qCB dAll (qCons (qLc false (qiAny (qVar 1)) (gNameD 8) qYes (qCB dIsi (qCons (qVar 8) (qCons (qC (.ty "list")) qNil))) [8]) qNil))))
  (qRet (qC (.str (PySem.Str.ofString "paper"))))
  qNext)
  (qSeq (qAsg (qVar 1) (gTupD 2 (gConsD (gNameD 2) (gConsD (gNameD 3) gNilD))))
  (qSeq (qIfS (qTB (qOp (dEq true) (qCB dLen (qCons (qVar 2) qNil)) (qCB dLen (qCons (qVar 0) qNil))))
  (qRet (qC (.str (PySem.Str.ofString "pairs"))))
  qNext)
  (qSeq (qFor (qiZip (qCons (qVar 0) (qCons (qVar 2) qNil))) (gTupD 2 (gConsD (gNameD 4) (gConsD (gNameD 5) gNilD)))
  (qIfS (qAnd (qTB (qOp (dIs true) (qVar 5) (qC .non))) (qOr (qNot (qTB (qCall sp__law_whole [] (qCons (qVar 5) qNil)))) (qTB (qOp (dIn true) (qVar 5) (qVar 4)))))
  (qRet (qC (.str (PySem.Str.ofString "pairs"))))
  qNext))
  (qSeq (qAsg (qLc false (qiAny (qVar 2)) (gNameD 5) (qTB (qOp (dIs true) (qVar 5) (qC .non))) (qVar 5) [5]) (gNameD 6))
  (qSeq (qIfS (qNot (qTB (qCB dAll (qCons (qLc false (qiAny (qVar 6)) (gNameD 5) qYes (qOp (dEq false) (qBM "list" mCount (qVar 6) (qCons (qVar 5) qNil)) (qC (.int 1))) [5]) qNil))))
  (qRet (qC (.str (PySem.Str.ofString "pairs"))))
  qNext)
  (qSeq (qIfS (qNot (qTB (qCB dAll (qCons (qLc false (qiAny (qVar 3)) (gNameD 4) qYes (qAndV (qCall sp__law_whole [] (qCons (qVar 4) qNil)) (qChain (dCmpI fun i j => decide (i ≤ j)) (dCmpI fun i j => decide (i < j)) (qC (.int 0)) (qVar 4) (qCB dLen (qCons (qVar 0) qNil)))) [4]) qNil))))
  (qRet (qC (.str (PySem.Str.ofString "band"))))
  qNext)
  (qSeq (qIfS (qNot (qTB (qCB dAll (qCons (qLc false (qiRng1 (qCons (qOp (dInt0 fun i j => i - j) (qCB dLen (qCons (qVar 3) qNil)) (qC (.int 1))) qNil)) (gNameD 9) qYes (qOp (dCmpI fun i j => decide (i < j)) (qOp dIx (qVar 3) (qVar 9)) (qOp dIx (qVar 3) (qOp (dAdd false) (qVar 9) (qC (.int 1))))) [9]) qNil))))
  (qRet (qC (.str (PySem.Str.ofString "band"))))
  qNext)
  (qSeq (qAsg qDNew (gNameD 7))
  (qSeq (qFor (qiAny (qVar 3)) (gNameD 4)
  (qDrop (qBMD mUpd (qVar 7) (qCons (qLc false (qiAny (qOp dIx (qVar 0) (qVar 4))) (gNameD 5) qYes (qTup (qCons (qVar 5) (qCons (qC (.bl true)) qNil))) [5]) qNil))))
  (qRet (qIf (qTB (qOp (dEq false) (qOp (dInt0 fun i j => i - j) (qCB dLen (qCons (qVar 2) qNil)) (qCB dLen (qCons (qVar 6) qNil))) (qOp (dInt0 fun i j => i - j) (qCB dLen (qCons (qVar 3) qNil)) (qCB dLen (qCons (qVar 7) qNil))))) (qC (.str (PySem.Str.ofString ""))) (qC (.str (PySem.Str.ofString "many"))))))))))))))))
theorem dv__law_where {k : Nat} (T : Tx K mg) {sp__law_whole : DSp} (G__law_whole : FnOk P w K mg base (L2.CX P w) k T.f__law_whole.f T.f__law_whole.fd ["_law_given"] (toSp K sp__law_whole)) {p : DSp} (hlen : ∀ ds M Q E, p ds M Q E → ds.length = 2)
    (hs : ∀ ds M Q Ed, upSp p ds M Q Ed → q__law_where sp__law_whole (fun x _ M => Ed x M) (retE Q) (startD N__law_where ds) M) : FnOk P w K mg base (L2.CX P w) (k + 1) T.f__law_where.f T.f__law_where.fd ["_law_wants", "_law_given"] (toSp K p) := by
  refine (fn_ok (p := upSp p) T.f__law_where.F sc__law_where (fun ds M Q E ⟨Q0, E0, h, _⟩ => hlen ds M Q0 E0 h) fun cdv A outer s H E hr tk hp => ?_).imp fun _ _ _ _ h => imp_up h
  have nd := sc__law_where.nd
  have hu64 := hr.units
  have hu := Nat.lt_of_le_of_lt (Nat.add_le_add_left (show 1 ≤ 64 by decide) _) hu64
  exact ⟨_, q__law_where sp__law_whole, (qss_cons (qs_if (QW.t (qw_or (qt_not (qt_val (q_callB c_isi rfl T.n_isinstance (by decide +kernel) (qa_cons (qv 1) (qa_cons (qe_c (pe_bltn (v := .ty "tuple") rfl T.n_tuple (by decide +kernel) rfl) fun _ => rfl) qa_nil))))) (qw_or1 (qt_cmp (o_ne hu64) (q_callB c_len rfl T.n_len (by decide +kernel) (qa_cons (qv 1) qa_nil)) q_int))))
  (qss_one (qs_ret q_str))
  qss_nil)
  (qss_cons (qs_if (qt_not (qt_val (q_callB (c_all rfl) rfl T.n_all (by decide +kernel) (qa_cons (q_lcX (own := [("_law_one", 8)]) false rfl nd (qi_any (qv 1)) (blkOk_by (own := [("_law_one", 8)]) (N := N__law_where) (sc := defScope s__law_where) (by decide +kernel)) (fun _ _ _ _ _ => ⟨_, (qg_nm 8 nd)⟩) (fun _ _ _ _ _ => ⟨_, qts_nil⟩) (fun _ _ _ _ _ => ⟨_, (q_callB c_isi rfl T.n_isinstance (by decide +kernel) (qa_cons (qv 8) (qa_cons (qe_c (pe_bltn (v := .ty "list") rfl T.n_list (by decide +kernel) rfl) fun _ => rfl) qa_nil)))⟩)) qa_nil))))
  (qss_one (qs_ret q_str))
  qss_nil)
  (qss_cons (qs_asg (ix := [2, 3]) (qv 1) (qg_tup rfl (qgs_cons (qg_nm 2 nd) (qgs_cons (qg_nm 3 nd) qgs_nil))))
  (qss_cons (qs_if (qt_cmp (o_ne hu64) (q_callB c_len rfl T.n_len (by decide +kernel) (qa_cons (qv 2) qa_nil)) (q_callB c_len rfl T.n_len (by decide +kernel) (qa_cons (qv 0) qa_nil)))
  (qss_one (qs_ret q_str))
  qss_nil)
  (qss_cons (qs_for (ix := [4, 5]) hp rfl (qi_zip rfl T.n_zip (qa_cons (qv 0) (qa_cons (qv 2) qa_nil))) (qg_tup rfl (qgs_cons (qg_nm 4 nd) (qgs_cons (qg_nm 5 nd) qgs_nil)))
  (qss_one (qs_if (QW.t (qw_and (qt_cmp o_isnot (qv 5) q_non) (qw_and1 (QW.t (qw_or (qt_not (qt_val (q_call G__law_whole hr tk rfl T.f__law_whole.g T.f__law_whole.F.kp T.f__law_whole.b .nil (fun _ => rfl) (qa_cons (qv 5) qa_nil)))) (qw_or1 (qt_cmp (o_notin hu) (qv 5) (qv 4))))))))
  (qss_one (qs_ret q_str))
  qss_nil)))
  (qss_cons (qs_setN 6 nd (q_lcX (own := [("_law_holder", 5)]) false rfl nd (qi_any (qv 2)) (blkOk_by (own := [("_law_holder", 5)]) (N := N__law_where) (sc := defScope s__law_where) (by decide +kernel)) (fun _ _ _ _ _ => ⟨_, (qg_nm 5 nd)⟩) (fun _ _ _ _ _ => ⟨_, (qts_one (qt_cmp o_isnot (qv 5) q_non))⟩) (fun _ _ _ _ _ => ⟨_, (qv 5)⟩)))
  (qss_cons (qs_if (qt_not (qt_val (q_callB (c_all rfl) rfl T.n_all (by decide +kernel) (qa_cons (q_lcX (own := [("_law_holder", 5)]) false rfl nd (qi_any (qv 6)) (blkOk_by (own := [("_law_holder", 5)]) (N := N__law_where) (sc := defScope s__law_where) (by decide +kernel)) (fun _ _ _ _ _ => ⟨_, (qg_nm 5 nd)⟩) (fun _ _ _ _ _ => ⟨_, qts_nil⟩) (fun _ _ _ _ _ => ⟨_, (q_cmp (o_eq hu64) (q_bm PySem.F.plainAttrs_list PySem.F.slot_list_count PySem.F.type_list_count m_count (qv 6) (qa_cons (qv 5) qa_nil)) q_int)⟩)) qa_nil))))
  (qss_one (qs_ret q_str))
  qss_nil)
  (qss_cons (qs_if (qt_not (qt_val (q_callB (c_all rfl) rfl T.n_all (by decide +kernel) (qa_cons (q_lcX (own := [("_law_wish", 4)]) false rfl nd (qi_any (qv 3)) (blkOk_by (own := [("_law_wish", 4)]) (N := N__law_where) (sc := defScope s__law_where) (by decide +kernel)) (fun _ _ _ _ _ => ⟨_, (qg_nm 4 nd)⟩) (fun _ _ _ _ _ => ⟨_, qts_nil⟩) (fun _ _ _ _ _ => ⟨_, (q_and (q_call G__law_whole hr takes0 rfl T.f__law_whole.g T.f__law_whole.F.kp T.f__law_whole.b .nil (fun _ => rfl) (qa_cons (qv 4) qa_nil)) (q_one (q_chain o_le o_lt q_int (qv 4) (q_callB c_len rfl T.n_len (by decide +kernel) (qa_cons (qv 0) qa_nil)))))⟩)) qa_nil))))
  (qss_one (qs_ret q_str))
  qss_nil)
  (qss_cons (qs_if (qt_not (qt_val (q_callB (c_all rfl) rfl T.n_all (by decide +kernel) (qa_cons (q_lcX (own := [("_law_k", 9)]) false rfl nd (qi_range1 rfl T.n_range (qa_cons (q_op o_sub (q_callB c_len rfl T.n_len (by decide +kernel) (qa_cons (qv 3) qa_nil)) q_int) qa_nil)) (blkOk_by (own := [("_law_k", 9)]) (N := N__law_where) (sc := defScope s__law_where) (by decide +kernel)) (fun _ _ _ _ _ => ⟨_, (qg_nm 9 nd)⟩) (fun _ _ _ _ _ => ⟨_, qts_nil⟩) (fun _ _ _ _ _ => ⟨_, (q_cmp o_lt (q_ix hu (qv 3) (qv 9)) (q_ix hu (qv 3) (q_op (o_add false) (qv 9) q_int)))⟩)) qa_nil))))
  (qss_one (qs_ret q_str))
  qss_nil)
  (qss_cons (qs_setN 7 nd q_dnew)
  (qss_cons (qs_for (ix := [4]) hp rfl (qi_any (qv 3)) (qg_nm 4 nd)
  (qss_one (qs_expr (q_bmD PySem.F.plainAttrs_dict PySem.F.slot_dict_update PySem.F.type_dict_update (m_update rfl) (qv 7) (qa_cons (q_lcX (own := [("_law_holder", 5)]) false rfl nd (qi_any (q_ix hu (qv 0) (qv 4))) (blkOk_by (own := [("_law_holder", 5)]) (N := N__law_where) (sc := defScope s__law_where) (by decide +kernel)) (fun _ _ _ _ _ => ⟨_, (qg_nm 5 nd)⟩) (fun _ _ _ _ _ => ⟨_, qts_nil⟩) (fun _ _ _ _ _ => ⟨_, (q_tup (qa_cons (qv 5) (qa_cons q_bl qa_nil)))⟩)) qa_nil)))))
  (qss_one (qs_ret (q_if (qt_cmp (o_eq hu64) (q_op o_sub (q_callB c_len rfl T.n_len (by decide +kernel) (qa_cons (qv 2) qa_nil)) (q_callB c_len rfl T.n_len (by decide +kernel) (qa_cons (qv 6) qa_nil))) (q_op o_sub (q_callB c_len rfl T.n_len (by decide +kernel) (qa_cons (qv 3) qa_nil)) (q_callB c_len rfl T.n_len (by decide +kernel) (qa_cons (qv 7) qa_nil)))) q_str q_str)))))))))))))), hs⟩
def q__law_whole : DTS :=
  (qRet (qAndV (qCB dIsi (qCons (qVar 0) (qCons (qC (.ty "int")) qNil))) (qNotV (qCB dIsi (qCons (qVar 0) (qCons (qC (.ty "bool")) qNil))))))
theorem dv__law_whole {k : Nat} (T : Tx K mg) {p : DSp} (hlen : ∀ ds M Q E, p ds M Q E → ds.length = 1)
    (hs : ∀ ds M Q Ed, upSp p ds M Q Ed → q__law_whole (fun x _ M => Ed x M) (retE Q) (startD N__law_whole ds) M) : FnOk P w K mg base (L2.CX P w) (k + 1) T.f__law_whole.f T.f__law_whole.fd ["_law_given"] (toSp K p) := by
  refine (fn_ok (p := upSp p) T.f__law_whole.F sc__law_whole (fun ds M Q E ⟨Q0, E0, h, _⟩ => hlen ds M Q0 E0 h) fun cdv A outer s H E hr tk hp => ?_).imp fun _ _ _ _ h => imp_up h
  have nd := sc__law_whole.nd
  have hu64 := hr.units
  have hu := Nat.lt_of_le_of_lt (Nat.add_le_add_left (show 1 ≤ 64 by decide) _) hu64
  exact ⟨_, q__law_whole, (qss_one (qs_ret (q_and (q_callB c_isi rfl T.n_isinstance (by decide +kernel) (qa_cons (qv 0) (qa_cons (qe_c (pe_bltn (v := .ty "int") rfl T.n_int (by decide +kernel) rfl) fun _ => rfl) qa_nil))) (q_one (q_not (q_callB c_isi rfl T.n_isinstance (by decide +kernel) (qa_cons (qv 0) (qa_cons (qe_c (pe_bltn (v := .ty "bool") rfl T.n_bool (by decide +kernel) rfl) fun _ => rfl) qa_nil)))))))), hs⟩
def q__law_copied (sp__law_copied : DSp) : DTS :=
  (qSeq (qIfS (qTB (qCB dIsi (qCons (qVar 0) (qCons (qTup (qCons (qC (.ty "list")) (qCons (qC (.ty "tuple")) qNil))) qNil))))
  (qSeq (qAsg (qLc false (qiAny (qVar 0)) (gNameD 2) qYes (qCall sp__law_copied [] (qCons (qVar 2) qNil)) [2]) (gNameD 1))
  (qRet (qIf (qTB (qCB dIsi (qCons (qVar 0) (qCons (qC (.ty "list")) qNil)))) (qVar 1) (qCB dTuple (qCons (qVar 1) qNil)))))
  qNext)
  (qRet (qVar 0)))
theorem dv__law_copied {k : Nat} (T : Tx K mg) {sp__law_copied : DSp} (G__law_copied : FnOk P w K mg base (L2.CX P w) k T.f__law_copied.f T.f__law_copied.fd ["_law_given"] (toSp K sp__law_copied)) {p : DSp} (hlen : ∀ ds M Q E, p ds M Q E → ds.length = 1)
    (hs : ∀ ds M Q Ed, upSp p ds M Q Ed → q__law_copied sp__law_copied (fun x _ M => Ed x M) (retE Q) (startD N__law_copied ds) M) : FnOk P w K mg base (L2.CX P w) (k + 1) T.f__law_copied.f T.f__law_copied.fd ["_law_given"] (toSp K p) := by
  refine (fn_ok (p := upSp p) T.f__law_copied.F sc__law_copied (fun ds M Q E ⟨Q0, E0, h, _⟩ => hlen ds M Q0 E0 h) fun cdv A outer s H E hr tk hp => ?_).imp fun _ _ _ _ h => imp_up h
  have nd := sc__law_copied.nd
  have hu64 := hr.units
  have hu := Nat.lt_of_le_of_lt (Nat.add_le_add_left (show 1 ≤ 64 by decide) _) hu64
  exact ⟨_, q__law_copied sp__law_copied, (qss_cons (qs_if (qt_val (q_callB c_isi rfl T.n_isinstance (by decide +kernel) (qa_cons (qv 0) (qa_cons (q_tup (qa_cons (qe_c (pe_bltn (v := .ty "list") rfl T.n_list (by decide +kernel) rfl) fun _ => rfl) (qa_cons (qe_c (pe_bltn (v := .ty "tuple") rfl T.n_tuple (by decide +kernel) rfl) fun _ => rfl) qa_nil))) qa_nil))))
  (qss_cons (qs_setLcX (own := [("_law_one", 2)]) false 1 rfl nd (qi_any (qv 0)) (blkOk_by (own := [("_law_one", 2)]) (N := N__law_copied) (sc := defScope s__law_copied) (by decide +kernel)) (fun _ _ _ _ _ => ⟨_, (qg_nm 2 nd)⟩) (fun _ _ _ _ _ => ⟨_, qts_nil⟩) (fun _ _ _ _ _ => ⟨_, (q_call G__law_copied hr takes0 rfl T.f__law_copied.g T.f__law_copied.F.kp T.f__law_copied.b .nil (fun _ => rfl) (qa_cons (qv 2) qa_nil))⟩))
  (qss_one (qs_ret (q_if (qt_val (q_callB c_isi rfl T.n_isinstance (by decide +kernel) (qa_cons (qv 0) (qa_cons (qe_c (pe_bltn (v := .ty "list") rfl T.n_list (by decide +kernel) rfl) fun _ => rfl) qa_nil)))) (qv 1) (q_callTy c_tuple rfl T.n_tuple (by decide +kernel) (qa_cons (qv 1) qa_nil))))))
  qss_nil)
  (qss_one (qs_ret (qv 0)))), hs⟩
def q_law (sp__law_bag : DSp) (sp__law_copied : DSp) (sp__law_where : DSp) (sp__law_wishes : DSp) (sp_paired : DSp) : DTS :=
  (qSeq (qFor (qiRng1 (qCons (qCB dMax2 (qCons (qC (.int 4)) (qCons (qCB dMin2 (qCons (qC (.int 8)) (qCons (qCB dLen (qCons (qVar 0) qNil)) qNil))) qNil))) qNil)) (gNameD 1)
  (qSeq (qAsg (qCall sp__law_wishes [] (qCons (qCall sp__law_bag [] (qCons (qVar 0) (qCons (qVar 1) qNil))) (qCons (qC (.int 24)) qNil))) (gNameD 2))
  (qFor (qiRng1 (qCons (qC (.int 2)) qNil)) (gNameD 3)
  (qSeq (qAsg (qCall sp__law_copied [] (qCons (qVar 2) qNil)) (gNameD 4))
  (qSeq (qAsg (qIf (qTB (qOp (dEq false) (qVar 3) (qC (.int 0)))) (qCall sp_paired [] (qCons (qVar 4) qNil)) (qCallKw 0 1 sp_paired [0] qNil (qCons (qVar 4) qNil))) (gNameD 5))
  (qSeq (qIfS (qOr (qTB (qOp (dEq true) (qCall sp__law_where [] (qCons (qVar 2) (qCons (qVar 5) qNil))) (qC (.str (PySem.Str.ofString ""))))) (qTB (qOp (dEq true) (qVar 4) (qVar 2))))
  (qRet (qC (.bl false)))
  qNext)
  (qSeq (qIfS (qAnd (qTB (qOp (dIn true) (qC .non) (qOp dIx (qVar 5) (qC (.int 0))))) (qTB (qOp (dEq true) (qOp dIx (qVar 5) (qC (.int 1))) (qLst false qNil))))
  (qRet (qC (.bl false)))
  qNext)
  (qSeq (qAsg (qCB (dList false) (qCons (qOp dIx (qVar 5) (qC (.int 1))) qNil)) (gNameD 6))
  (qSeq (qDrop (qBM "list" mApp (qOp dIx (qVar 5) (qC (.int 0))) (qCons (qC .non) qNil)))
  (qSeq (qIfS (qTB (qOp (dEq true) (qOp dIx (qVar 5) (qC (.int 1))) (qVar 6)))
  (qRet (qC (.bl false)))
  qNext)
  (qDrop (qBM "list" mApp (qOp dIx (qVar 5) (qC (.int 1))) (qCons (qC (.int 0)) qNil)))))))))))))
  (qRet (qAndV (qOp (dEq false) (qCall sp__law_where [] (qCons (qLst false qNil) (qCons (qCall sp_paired [] (qCons (qLst false qNil) qNil)) qNil))) (qC (.str (PySem.Str.ofString "")))) (qOp (dEq false) (qCall sp__law_where [] (qCons (qLst false (qCons (qLst false qNil) (qCons (qLst false (qCons (qC (.int 7)) qNil)) qNil))) (qCons (qCall sp_paired [] (qCons (qLst false (qCons (qLst false qNil) (qCons (qLst false (qCons (qC (.int 7)) qNil)) qNil))) qNil)) qNil))) (qC (.str (PySem.Str.ofString "")))))))
theorem dv_law {k : Nat} (T : Tx K mg) {sp__law_bag : DSp} (G__law_bag : FnOk P w K mg base (L2.CX P w) k T.f__law_bag.f T.f__law_bag.fd ["_law_script", "_law_at"] (toSp K sp__law_bag)) {sp__law_copied : DSp} (G__law_copied : FnOk P w K mg base (L2.CX P w) k T.f__law_copied.f T.f__law_copied.fd ["_law_given"] (toSp K sp__law_copied)) {sp__law_where : DSp} (G__law_where : FnOk P w K mg base (L2.CX P w) k T.f__law_where.f T.f__law_where.fd ["_law_wants", "_law_given"] (toSp K sp__law_where)) {sp__law_wishes : DSp} (G__law_wishes : FnOk P w K mg base (L2.CX P w) k T.f__law_wishes.f T.f__law_wishes.fd ["_law_bag_here", "_law_most"] (toSp K sp__law_wishes)) {sp_paired : DSp} (G_paired : FnOk P w K mg base (L2.CX P w) k T.f_paired.f T.f_paired.fd ["wishes"] (toSp K sp_paired)) {p : DSp} (hlen : ∀ ds M Q E, p ds M Q E → ds.length = 1)
    (hs : ∀ ds M Q Ed, upSp p ds M Q Ed → q_law sp__law_bag sp__law_copied sp__law_where sp__law_wishes sp_paired (fun x _ M => Ed x M) (retE Q) (startD N_law ds) M) : FnOk P w K mg base (L2.CX P w) (k + 1) T.f_law.f T.f_law.fd ["_law_script"] (toSp K p) := by
  refine (fn_ok (p := upSp p) T.f_law.F sc_law (fun ds M Q E ⟨Q0, E0, h, _⟩ => hlen ds M Q0 E0 h) fun cdv A outer s H E hr tk hp => ?_).imp fun _ _ _ _ h => imp_up h
  have nd := sc_law.nd
  have hu64 := hr.units
  have hu := Nat.lt_of_le_of_lt (Nat.add_le_add_left (show 1 ≤ 64 by decide) _) hu64
  exact ⟨_, q_law sp__law_bag sp__law_copied sp__law_where sp__law_wishes sp_paired, (qss_cons (qs_for (ix := [1]) hp rfl (qi_range1 rfl T.n_range (qa_cons (q_callB (c_max2 rfl) rfl T.n_max (by decide +kernel) (qa_cons q_int (qa_cons (q_callB (c_min2 rfl) rfl T.n_min (by decide +kernel) (qa_cons q_int (qa_cons (q_callB c_len rfl T.n_len (by decide +kernel) (qa_cons (qv 0) qa_nil)) qa_nil))) qa_nil))) qa_nil)) (qg_nm 1 nd)
  (qss_cons (qs_setN 2 nd (q_call G__law_wishes hr tk rfl T.f__law_wishes.g T.f__law_wishes.F.kp T.f__law_wishes.b .nil (fun _ => rfl) (qa_cons (q_call G__law_bag hr tk rfl T.f__law_bag.g T.f__law_bag.F.kp T.f__law_bag.b .nil (fun _ => rfl) (qa_cons (qv 0) (qa_cons (qv 1) qa_nil))) (qa_cons q_int qa_nil))))
  (qss_one (qs_for (ix := [3]) hp rfl (qi_range1 rfl T.n_range (qa_cons q_int qa_nil)) (qg_nm 3 nd)
  (qss_cons (qs_setN 4 nd (q_call G__law_copied hr tk rfl T.f__law_copied.g T.f__law_copied.F.kp T.f__law_copied.b .nil (fun _ => rfl) (qa_cons (qv 2) qa_nil)))
  (qss_cons (qs_setN 5 nd (q_if (qt_cmp (o_eq hu64) (qv 3) q_int) (q_call G_paired hr tk rfl T.f_paired.g T.f_paired.F.kp T.f_paired.b .nil (fun _ => rfl) (qa_cons (qv 4) qa_nil)) (q_callK0 (ks := ["wishes"]) (idx := [0]) G_paired hr tk rfl T.f_paired.g T.f_paired.F.kp T.kw_paired_0_wishes (qk_cons (qv 4) qk_nil))))
  (qss_cons (qs_if (QW.t (qw_or (qt_cmp (o_ne hu64) (q_call G__law_where hr tk rfl T.f__law_where.g T.f__law_where.F.kp T.f__law_where.b .nil (fun _ => rfl) (qa_cons (qv 2) (qa_cons (qv 5) qa_nil))) q_str) (qw_or1 (qt_cmp (o_ne hu64) (qv 4) (qv 2)))))
  (qss_one (qs_ret q_bl))
  qss_nil)
  (qss_cons (qs_if (QW.t (qw_and (qt_cmp (o_notin hu) q_non (q_ix hu (qv 5) q_int)) (qw_and1 (qt_cmp (o_ne hu64) (q_ix hu (qv 5) q_int) (q_lst false qa_nil)))))
  (qss_one (qs_ret q_bl))
  qss_nil)
  (qss_cons (qs_setN 6 nd (q_callTy (c_list false) rfl T.n_list (by decide +kernel) (qa_cons (q_ix hu (qv 5) q_int) qa_nil)))
  (qss_cons (qs_expr (q_bm PySem.F.plainAttrs_list PySem.F.slot_list_append PySem.F.type_list_append m_append (q_ix hu (qv 5) q_int) (qa_cons q_non qa_nil)))
  (qss_cons (qs_if (qt_cmp (o_ne hu64) (q_ix hu (qv 5) q_int) (qv 6))
  (qss_one (qs_ret q_bl))
  qss_nil)
  (qss_one (qs_expr (q_bm PySem.F.plainAttrs_list PySem.F.slot_list_append PySem.F.type_list_append m_append (q_ix hu (qv 5) q_int) (qa_cons q_int qa_nil)))))))))))))))
  (qss_one (qs_ret (q_and (q_cmp (o_eq hu64) (q_call G__law_where hr tk rfl T.f__law_where.g T.f__law_where.F.kp T.f__law_where.b .nil (fun _ => rfl) (qa_cons (q_lst false qa_nil) (qa_cons (q_call G_paired hr tk rfl T.f_paired.g T.f_paired.F.kp T.f_paired.b .nil (fun _ => rfl) (qa_cons (q_lst false qa_nil) qa_nil)) qa_nil))) q_str) (q_one (q_cmp (o_eq hu64) (q_call G__law_where hr tk rfl T.f__law_where.g T.f__law_where.F.kp T.f__law_where.b .nil (fun _ => rfl) (qa_cons (q_lst false (qa_cons (q_lst false qa_nil) (qa_cons (q_lst false (qa_cons q_int qa_nil)) qa_nil))) (qa_cons (q_call G_paired hr tk rfl T.f_paired.g T.f_paired.F.kp T.f_paired.b .nil (fun _ => rfl) (qa_cons (q_lst false (qa_cons (q_lst false qa_nil) (qa_cons (q_lst false (qa_cons q_int qa_nil)) qa_nil))) qa_nil)) qa_nil))) q_str)))))), hs⟩
end
theorem all_mk {l : PySem.W.OpenLaw} {w : World} {K : PySem.W.Frag} {h : Heap} {mg : Str → Option Value} {fa f0 f1 f2 f3 f4 f5 f6 f7 f8 f9 : Addr} (X : K.In h) (G : h.Ns mainGlobals mg) (hfa : mg "law" = some (.ref fa))
    {od0 an0 od1 an1 od2 an2 od3 an3 od4 an4 od5 an5 od6 an6 od7 an7 od8 an8 od9 an9 : Option Addr} {sl0 sl1 sl2 sl3 sl4 sl5 sl6 sl7 sl8 sl9 : Array (Option Value)} {oc0 kV0 dc0 pm0 cd0 ct0 oc1 kV1 dc1 pm1 cd1 ct1 oc2 kV2 dc2 pm2 cd2 ct2 oc3 kV3 dc3 pm3 cd3 ct3 oc4 kV4 dc4 pm4 cd4 ct4 oc5 kV5 dc5 pm5 cd5 ct5 oc6 kV6 dc6 pm6 cd6 ct6 oc7 kV7 dc7 pm7 cd7 ct7 oc8 kV8 dc8 pm8 cd8 ct8 oc9 kV9 dc9 pm9 cd9 ct9 : Value}
    (a0 : PySem.W.nsIn K mainGlobals "gets_holder" = some (some (.ref f0))) (l0 : K.lookup f0 = some ⟨oc0, od0, .func (PySem.W.fnOf "gets_holder" "gets_holder" (defArgs s_gets_holder) (defBody s_gets_holder) (defScope s_gets_holder) .none kV0 dc0 pm0 an0 cd0 ct0), sl0⟩) (c0 : PySem.W.codeIn K cd0 "gets_holder" = true) (k0 : PySem.W.keepIn K (.ref f0) = true)
    (a1 : PySem.W.nsIn K mainGlobals "band_of" = some (some (.ref f1))) (l1 : K.lookup f1 = some ⟨oc1, od1, .func (PySem.W.fnOf "band_of" "band_of" (defArgs s_band_of) (defBody s_band_of) (defScope s_band_of) .none kV1 dc1 pm1 an1 cd1 ct1), sl1⟩) (c1 : PySem.W.codeIn K cd1 "band_of" = true) (k1 : PySem.W.keepIn K (.ref f1) = true)
    (a2 : PySem.W.nsIn K mainGlobals "paired" = some (some (.ref f2))) (l2 : K.lookup f2 = some ⟨oc2, od2, .func (PySem.W.fnOf "paired" "paired" (defArgs s_paired) (defBody s_paired) (defScope s_paired) .none kV2 dc2 pm2 an2 cd2 ct2), sl2⟩) (c2 : PySem.W.codeIn K cd2 "paired" = true) (k2 : PySem.W.keepIn K (.ref f2) = true)
    (a3 : PySem.W.nsIn K mainGlobals "_law_bag" = some (some (.ref f3))) (l3 : K.lookup f3 = some ⟨oc3, od3, .func (PySem.W.fnOf "_law_bag" "_law_bag" (defArgs s__law_bag) (defBody s__law_bag) (defScope s__law_bag) .none kV3 dc3 pm3 an3 cd3 ct3), sl3⟩) (c3 : PySem.W.codeIn K cd3 "_law_bag" = true) (k3 : PySem.W.keepIn K (.ref f3) = true)
    (a4 : PySem.W.nsIn K mainGlobals "_law_take" = some (some (.ref f4))) (l4 : K.lookup f4 = some ⟨oc4, od4, .func (PySem.W.fnOf "_law_take" "_law_take" (defArgs s__law_take) (defBody s__law_take) (defScope s__law_take) .none kV4 dc4 pm4 an4 cd4 ct4), sl4⟩) (c4 : PySem.W.codeIn K cd4 "_law_take" = true) (k4 : PySem.W.keepIn K (.ref f4) = true)
    (a5 : PySem.W.nsIn K mainGlobals "_law_wishes" = some (some (.ref f5))) (l5 : K.lookup f5 = some ⟨oc5, od5, .func (PySem.W.fnOf "_law_wishes" "_law_wishes" (defArgs s__law_wishes) (defBody s__law_wishes) (defScope s__law_wishes) .none kV5 dc5 pm5 an5 cd5 ct5), sl5⟩) (c5 : PySem.W.codeIn K cd5 "_law_wishes" = true) (k5 : PySem.W.keepIn K (.ref f5) = true)
    (a6 : PySem.W.nsIn K mainGlobals "_law_where" = some (some (.ref f6))) (l6 : K.lookup f6 = some ⟨oc6, od6, .func (PySem.W.fnOf "_law_where" "_law_where" (defArgs s__law_where) (defBody s__law_where) (defScope s__law_where) .none kV6 dc6 pm6 an6 cd6 ct6), sl6⟩) (c6 : PySem.W.codeIn K cd6 "_law_where" = true) (k6 : PySem.W.keepIn K (.ref f6) = true)
    (a7 : PySem.W.nsIn K mainGlobals "_law_whole" = some (some (.ref f7))) (l7 : K.lookup f7 = some ⟨oc7, od7, .func (PySem.W.fnOf "_law_whole" "_law_whole" (defArgs s__law_whole) (defBody s__law_whole) (defScope s__law_whole) .none kV7 dc7 pm7 an7 cd7 ct7), sl7⟩) (c7 : PySem.W.codeIn K cd7 "_law_whole" = true) (k7 : PySem.W.keepIn K (.ref f7) = true)
    (a8 : PySem.W.nsIn K mainGlobals "_law_copied" = some (some (.ref f8))) (l8 : K.lookup f8 = some ⟨oc8, od8, .func (PySem.W.fnOf "_law_copied" "_law_copied" (defArgs s__law_copied) (defBody s__law_copied) (defScope s__law_copied) .none kV8 dc8 pm8 an8 cd8 ct8), sl8⟩) (c8 : PySem.W.codeIn K cd8 "_law_copied" = true) (k8 : PySem.W.keepIn K (.ref f8) = true)
    (a9 : PySem.W.nsIn K mainGlobals "law" = some (some (.ref f9))) (l9 : K.lookup f9 = some ⟨oc9, od9, .func (PySem.W.fnOf "law" "law" (defArgs s_law) (defBody s_law) (defScope s_law) .none kV9 dc9 pm9 an9 cd9 ct9), sl9⟩) (c9 : PySem.W.codeIn K cd9 "law" = true) (k9 : PySem.W.keepIn K (.ref f9) = true)
    (z0 : PySem.W.nsIn K mainGlobals "abs" = some none)
    (z1 : PySem.W.nsIn K mainGlobals "all" = some none)
    (z2 : PySem.W.nsIn K mainGlobals "bool" = some none)
    (z3 : PySem.W.nsIn K mainGlobals "enumerate" = some none)
    (z4 : PySem.W.nsIn K mainGlobals "int" = some none)
    (z5 : PySem.W.nsIn K mainGlobals "isinstance" = some none)
    (z6 : PySem.W.nsIn K mainGlobals "len" = some none)
    (z7 : PySem.W.nsIn K mainGlobals "list" = some none)
    (z8 : PySem.W.nsIn K mainGlobals "max" = some none)
    (z9 : PySem.W.nsIn K mainGlobals "min" = some none)
    (z10 : PySem.W.nsIn K mainGlobals "range" = some none)
    (z11 : PySem.W.nsIn K mainGlobals "sorted" = some none)
    (z12 : PySem.W.nsIn K mainGlobals "tuple" = some none)
    (z13 : PySem.W.nsIn K mainGlobals "zip" = some none)
    {k : Nat} (ok : ∀ (T : Tx K mg) (base : Heap), FnOk l.prog w K mg base (L2.CX l.prog w) k T.f_law.f T.f_law.fd ["_law_script"] (toSp K spLaw)) :
    ∃ fd : FuncData, (∀ (s : Shared) (v : Value), BindsTo s fd ⟨[v], []⟩ [("_law_script", v)]) ∧ ∀ base : Heap, K.In base → base.Ns mainGlobals mg → FnOk l.prog w K mg base (L2.CX l.prog w) k fa fd ["_law_script"] (toSp K spLaw) := by
  have e : fa = f9 := by
    have e := hfa.symm.trans (PySem.W.mg_of X G a9)
    cases e; rfl
  rw [e]
  refine ⟨_, fun s v => ?_, fun base _ _ => ok {
    f_gets_holder := ⟨f0, _, PySem.W.mg_of X G a0, fun_mk (st := s_gets_holder) l0 c0 k0, (fun_mk (st := s_gets_holder) l0 c0 k0).binds (ps := ["wishes", "held", "wish", "tried"]) fun _ _ _ _ _ _ us hl => match us, hl with | [_, _, _, _], _ => rfl⟩,
    f_band_of := ⟨f1, _, PySem.W.mg_of X G a1, fun_mk (st := s_band_of) l1 c1 k1, (fun_mk (st := s_band_of) l1 c1 k1).binds (ps := ["wishes", "pairs", "held"]) fun _ _ _ _ _ _ us hl => match us, hl with | [_, _, _], _ => rfl⟩,
    f_paired := ⟨f2, _, PySem.W.mg_of X G a2, fun_mk (st := s_paired) l2 c2 k2, (fun_mk (st := s_paired) l2 c2 k2).binds (ps := ["wishes"]) fun _ _ _ _ _ _ us hl => match us, hl with | [_], _ => rfl⟩,
    f__law_bag := ⟨f3, _, PySem.W.mg_of X G a3, fun_mk (st := s__law_bag) l3 c3 k3, (fun_mk (st := s__law_bag) l3 c3 k3).binds (ps := ["_law_script", "_law_at"]) fun _ _ _ _ _ _ us hl => match us, hl with | [_, _], _ => rfl⟩,
    f__law_take := ⟨f4, _, PySem.W.mg_of X G a4, fun_mk (st := s__law_take) l4 c4 k4, (fun_mk (st := s__law_take) l4 c4 k4).binds (ps := ["_law_bag_here", "_law_many"]) fun _ _ _ _ _ _ us hl => match us, hl with | [_, _], _ => rfl⟩,
    f__law_wishes := ⟨f5, _, PySem.W.mg_of X G a5, fun_mk (st := s__law_wishes) l5 c5 k5, (fun_mk (st := s__law_wishes) l5 c5 k5).binds (ps := ["_law_bag_here", "_law_most"]) fun _ _ _ _ _ _ us hl => match us, hl with | [_, _], _ => rfl⟩,
    f__law_where := ⟨f6, _, PySem.W.mg_of X G a6, fun_mk (st := s__law_where) l6 c6 k6, (fun_mk (st := s__law_where) l6 c6 k6).binds (ps := ["_law_wants", "_law_given"]) fun _ _ _ _ _ _ us hl => match us, hl with | [_, _], _ => rfl⟩,
    f__law_whole := ⟨f7, _, PySem.W.mg_of X G a7, fun_mk (st := s__law_whole) l7 c7 k7, (fun_mk (st := s__law_whole) l7 c7 k7).binds (ps := ["_law_given"]) fun _ _ _ _ _ _ us hl => match us, hl with | [_], _ => rfl⟩,
    f__law_copied := ⟨f8, _, PySem.W.mg_of X G a8, fun_mk (st := s__law_copied) l8 c8 k8, (fun_mk (st := s__law_copied) l8 c8 k8).binds (ps := ["_law_given"]) fun _ _ _ _ _ _ us hl => match us, hl with | [_], _ => rfl⟩,
    f_law := ⟨f9, _, PySem.W.mg_of X G a9, fun_mk (st := s_law) l9 c9 k9, (fun_mk (st := s_law) l9 c9 k9).binds (ps := ["_law_script"]) fun _ _ _ _ _ _ us hl => match us, hl with | [_], _ => rfl⟩,
    n_abs := PySem.W.mg_none_of X G z0,
    n_all := PySem.W.mg_none_of X G z1,
    n_bool := PySem.W.mg_none_of X G z2,
    n_enumerate := PySem.W.mg_none_of X G z3,
    n_int := PySem.W.mg_none_of X G z4,
    n_isinstance := PySem.W.mg_none_of X G z5,
    n_len := PySem.W.mg_none_of X G z6,
    n_list := PySem.W.mg_none_of X G z7,
    n_max := PySem.W.mg_none_of X G z8,
    n_min := PySem.W.mg_none_of X G z9,
    n_range := PySem.W.mg_none_of X G z10,
    n_sorted := PySem.W.mg_none_of X G z11,
    n_tuple := PySem.W.mg_none_of X G z12,
    n_zip := PySem.W.mg_none_of X G z13,
    kw_paired_0_wishes := kwb (fun_mk (st := s_paired) l2 c2 k2) fun _ _ _ _ _ _ us ws h1 h2 => match us, ws, h1, h2 with | [], [_], _, _ => rfl } base⟩
  exact .of_eq rfl
end K11

/-! K11p: what the law's own defs tell. -/
namespace K11
open PySem L2 DL Pair
/-! ### copied -/
mutual
def cp : Nat → D → Bool
  | 0, _ => false
  | _ + 1, .non => true
  | _ + 1, .bl _ => true
  | _ + 1, .int _ => true
  | _ + 1, .str _ => true
  | n + 1, .lst ds => decide (ds.length ≤ 100000) && ds.all (cp n)
  | n + 1, .tup ds => decide (ds.length ≤ 100000) && ds.all (cp n)
  | _ + 1, _ => false
end
def spCopied (n : Nat) : DSp := fun ds M Q _ => ∃ d, ds = [d] ∧ cp n d = true ∧ Q d M
theorem filterMap_some {α : Type} (l : List α) : l.filterMap (fun x => some x) = l := by
  induction l with
  | nil => rfl
  | cons a l ih => simp
theorem copied_ok (n : Nat) (ds : List D) (M : Mst) (Q : DK) (Ed : DX → Mst → Prop) (h : upSp (spCopied (n + 1)) ds M Q Ed) : q__law_copied (spCopied n) (fun x _ M => Ed x M) (retE Q) (startD N__law_copied ds) M := by
  obtain ⟨Q0, E0, ⟨d, rfl, hc, k0⟩, kq, _⟩ := h
  have k : Q d M := kq _ _ _ (Sub.refl _) k0
  show qSeq _ _ _ _ [some d, none, none] M
  have fl : ∀ T : String, hasTy (res M d) = true → tyD (res M d) = T → isiL T [.ty "list", .ty "tuple"] = some false → qSeq (qIfS (qTB (qCB dIsi (qCons (qVar 0) (qCons (qTup (qCons (qC (.ty "list")) (qCons (qC (.ty "tuple")) qNil))) qNil))))
      (qSeq (qAsg (qLc false (qiAny (qVar 0)) (gNameD 2) qYes (qCall (spCopied n) [] (qCons (qVar 2) qNil)) [2]) (gNameD 1))
      (qRet (qIf (qTB (qCB dIsi (qCons (qVar 0) (qCons (qC (.ty "list")) qNil)))) (qVar 1) (qCB dTuple (qCons (qVar 1) qNil))))) qNext) (qRet (qVar 0)) (fun x _ M => Ed x M) (retE Q) [some d, none, none] M := fun T h1 h2 h3 => by
    simp only [qSeq, qAsg, qTup, qCons, qNil, qOp, qUn, qC, qCall, qVar, qLst, newL_f, qIfS, qTB, qNext, qRet, qDrop, qFor, qCB, qAug, qSl, qPart, qNoPart, gNameD, gSub_eq, dInt_i, dInt0_i, dAdd_i, dCmpI_i, List.set_cons_zero, List.set_cons_succ, List.getElem?_cons_zero, List.getElem?_cons_succ, List.append_nil]
    refine ⟨by simp, ?_⟩
    rw [isi_tup h1 (by rw [h2]; exact h3)]
    simp only [Bool.false_eq_true, if_false]
    exact k
  have row : ∀ xs : List D, xs.all (cp n) = true → ∀ (c : Addr) (R : DK), M c = none → xs.length ≤ 100000 → R (.lst xs) M → compL false always (gNameD 2) qYes (qCall (spCopied n) [] (qCons (qVar 2) qNil)) [2] c [some d, none, none] R xs (put M c (.lst [])) := fun xs ha c R hc hl hR => by
    refine compL_map hc (fun d => some d) (fun _ => trivial) hl (fun y hy acc R2 hR2 => ?_) ?_
    · simp only [wipeD, qYes, qSeq, qAsg, qTup, qCons, qNil, qOp, qUn, qC, qCall, qVar, qLst, newL_f, qIfS, qTB, qNext, qRet, qDrop, qFor, qCB, qAug, qSl, qPart, qNoPart, gNameD, gSub_eq, dInt_i, dInt0_i, dAdd_i, dCmpI_i, List.set_cons_zero, List.set_cons_succ, List.getElem?_cons_zero, List.getElem?_cons_succ, List.append_nil, if_true]
      exact ⟨y, rfl, List.all_eq_true.mp ha y hy, hR2⟩
    · simp only [Bool.false_eq_true, if_false]
      rw [filterMap_some]; exact hR
  cases d with
  | non => exact fl _ rfl rfl lt2_n
  | bl b => exact fl _ rfl rfl lt2_b
  | int i => exact fl _ rfl rfl lt2_i
  | str x => exact fl _ rfl rfl lt2_s
  | lst xs =>
    simp only [cp, Bool.and_eq_true, decide_eq_true_eq] at hc
    simp only [q__law_copied, qSeq, qAsg, qTup, qCons, qNil, qOp, qUn, qC, qCall, qVar, qLst, newL_f, qIfS, qTB, qNext, qRet, qDrop, qFor, qCB, qAug, qSl, qPart, qNoPart, gNameD, gSub_eq, dInt_i, dInt0_i, dAdd_i, dCmpI_i, List.set_cons_zero, List.set_cons_succ, List.getElem?_cons_zero, List.getElem?_cons_succ, List.append_nil]
    refine ⟨by simp, ?_⟩
    rw [isi_tup (x := .lst xs) (M := M) rfl lt2_l]
    simp only [if_true, qLc, qiAny, qSeq, qAsg, qTup, qCons, qNil, qOp, qUn, qC, qCall, qVar, qLst, newL_f, qIfS, qTB, qNext, qRet, qDrop, qFor, qCB, qAug, qSl, qPart, qNoPart, gNameD, gSub_eq, dInt_i, dInt0_i, dAdd_i, dCmpI_i, List.set_cons_zero, List.set_cons_succ, List.getElem?_cons_zero, List.getElem?_cons_succ, List.append_nil]
    intro c hcc
    refine row xs hc.2 c _ hcc hc.1 ?_
    simp only [qIf, qSeq, qAsg, qTup, qCons, qNil, qOp, qUn, qC, qCall, qVar, qLst, newL_f, qIfS, qTB, qNext, qRet, qDrop, qFor, qCB, qAug, qSl, qPart, qNoPart, gNameD, gSub_eq, dInt_i, dInt0_i, dAdd_i, dCmpI_i, List.set_cons_zero, List.set_cons_succ, List.getElem?_cons_zero, List.getElem?_cons_succ, List.append_nil]
    rw [isi_one (x := .lst xs) (M := M) rfl ll]
    simp only [if_true]
    exact k
  | tup xs =>
    simp only [cp, Bool.and_eq_true, decide_eq_true_eq] at hc
    simp only [q__law_copied, qSeq, qAsg, qTup, qCons, qNil, qOp, qUn, qC, qCall, qVar, qLst, newL_f, qIfS, qTB, qNext, qRet, qDrop, qFor, qCB, qAug, qSl, qPart, qNoPart, gNameD, gSub_eq, dInt_i, dInt0_i, dAdd_i, dCmpI_i, List.set_cons_zero, List.set_cons_succ, List.getElem?_cons_zero, List.getElem?_cons_succ, List.append_nil]
    refine ⟨by simp, ?_⟩
    rw [isi_tup (x := .tup xs) (M := M) rfl lt2_t]
    simp only [if_true, qLc, qiAny, qSeq, qAsg, qTup, qCons, qNil, qOp, qUn, qC, qCall, qVar, qLst, newL_f, qIfS, qTB, qNext, qRet, qDrop, qFor, qCB, qAug, qSl, qPart, qNoPart, gNameD, gSub_eq, dInt_i, dInt0_i, dAdd_i, dCmpI_i, List.set_cons_zero, List.set_cons_succ, List.getElem?_cons_zero, List.getElem?_cons_succ, List.append_nil]
    intro c hcc
    refine row xs hc.2 c _ hcc hc.1 ?_
    simp only [qIf, qSeq, qAsg, qTup, qCons, qNil, qOp, qUn, qC, qCall, qVar, qLst, newL_f, qIfS, qTB, qNext, qRet, qDrop, qFor, qCB, qAug, qSl, qPart, qNoPart, gNameD, gSub_eq, dInt_i, dInt0_i, dAdd_i, dCmpI_i, List.set_cons_zero, List.set_cons_succ, List.getElem?_cons_zero, List.getElem?_cons_succ, List.append_nil]
    rw [isi_one (x := .tup xs) (M := M) rfl tl]
    simp only [Bool.false_eq_true, if_false, dTuple, res_lst]
    exact k
  | _ => cases hc
/-! ### where -/
def spWhole : DSp := fun ds M Q _ => ∃ i : Int, ds = [.int i] ∧ Q (.bl true) M
theorem whole_ok (ds : List D) (M : Mst) (Q : DK) (Ed : DX → Mst → Prop) (h : upSp spWhole ds M Q Ed) : q__law_whole (fun x _ M => Ed x M) (retE Q) (startD N__law_whole ds) M := by
  obtain ⟨Q0, E0, ⟨i, rfl, k0⟩, kq, _⟩ := h
  show q__law_whole _ _ [some (.int i)] M
  simp only [q__law_whole, qAndV, qNotV, qSeq, qAsg, qTup, qCons, qNil, qOp, qUn, qC, qCall, qVar, qLst, newL_f, qIfS, qTB, qNext, qRet, qDrop, qFor, qCB, qAug, qSl, qPart, qNoPart, gNameD, gSub_eq, dInt_i, dInt0_i, dAdd_i, dCmpI_i, List.set_cons_zero, List.set_cons_succ, List.getElem?_cons_zero, List.getElem?_cons_succ, List.append_nil]
  rw [isi_one (x := .int i) (M := M) rfl ii]
  simp only [if_true]
  rw [isi_one (x := .int i) (M := M) rfl ib]
  exact kq _ _ _ (Sub.refl _) k0
structure Small (ws : List (List Int)) : Prop where
  few : ws.length ≤ 63
  each : ∀ w ∈ ws, w.length ≤ 63
def spWhere : DSp := fun ds M Q _ => ∃ (ws : List (List Int)) (prs : List (Option Key)) (band : List Nat) (a b : Addr), ds = [wsD (kk ws), .tup [.ref a, .ref b]] ∧ a ≠ b ∧ M a = some (.lst (prs.map optD)) ∧ M b = some (.lst (natsD band)) ∧
  Small ws ∧ Told (kk ws) prs band ∧ Q (.str (PySem.Str.ofString "")) M
theorem get_kk (ws : List (List Int)) (i : Nat) : (kk ws)[i]? = (ws[i]?).map fun w => w.map Sum.inl := by unfold kk; rw [List.getElem?_map]
theorem ws_kk {ws : List (List Int)} {i : Nat} {w : List Int} (h : ws[i]? = some w) : ws_ (kk ws) i = w.map Sum.inl := by
  unfold ws_; rw [get_kk, h]; rfl
theorem deq_kD (a b : Key) : deq (kD a) (kD b) = decide (a = b) := by
  cases a with
  | inl i => cases b with
    | inl j => show deq (.int i) (.int j) = _; rw [deq_int]; exact decide_eq_decide.mpr ⟨fun e => by rw [e], fun e => by injection e⟩
    | inr y => simp [kD, deq, pyd, PyData.eqv]
  | inr x => cases b with
    | inl j => simp [kD, deq, pyd, PyData.eqv]
    | inr y => show deq (.str x) (.str y) = _; rw [deq_str]; exact decide_eq_decide.mpr ⟨fun e => by rw [e], fun e => by injection e⟩
theorem flat_kD (k : Key) : flatD (kD k) = true := by cases k <;> rfl
theorem count_one {S : List Key} (nd : S.Nodup) {k : Key} (hk : k ∈ S) : S.countP (fun x => decide (x = k)) = 1 := by
  induction S with
  | nil => cases hk
  | cons a S ih =>
    rw [List.nodup_cons] at nd
    rw [List.countP_cons]
    by_cases e : a = k
    · subst e
      have z : S.countP (fun x => decide (x = a)) = 0 := List.countP_eq_zero.mpr fun x hx => by simp; exact fun e => nd.1 (e ▸ hx)
      rw [z]; simp
    · rw [ih nd.2 ((List.mem_cons.mp hk).resolve_left fun z => e z.symm)]; simp [e]
theorem cnt_keys {S : List Key} {k : Key} {M : Mst} {Q : DK} : mCount (.lst (S.map kD)) [kD k] M Q = Q (.int (S.countP fun x => decide (x = k) : Nat)) M := by
  unfold mCount
  have h1 : (S.map kD).all flatD = true := List.all_eq_true.mpr fun x hx => by
    obtain ⟨o, _, rfl⟩ := List.mem_map.mp hx; exact flat_kD o
  have h2 : ((S.map kD).countP fun e => deq e (kD k)) = S.countP fun x => decide (x = k) := by
    rw [List.countP_map]
    exact List.countP_congr fun o _ => by simp [deq_kD]
  simp only [res_lst, h1, h2, flat_kD, true_and]
def someF (d : D) : Option D := if isNon d = true then none else some d
theorem some_map : ∀ prs : List (Option Key), (prs.map optD).filterMap someF = (prs.filterMap id).map kD
  | [] => rfl
  | o :: prs => by
    have ih := some_map prs
    rw [List.map_cons, List.filterMap_cons, List.filterMap_cons]
    cases o with
    | none => exact ih
    | some k =>
      have e : someF (optD (some k)) = some (kD k) := by cases k <;> rfl
      rw [e, ih]; rfl
theorem trues {α : Type} (l : List α) (f : α → Option D) (h : ∀ x ∈ l, f x = some (.bl true)) : l.filterMap f = (l.map fun _ => true).map D.bl := by
  induction l with
  | nil => rfl
  | cons a l ih =>
    rw [List.filterMap_cons, h a (List.mem_cons_self ..), ih fun x hx => h x (List.mem_cons_of_mem _ hx)]; rfl
theorem all_trues {α : Type} (l : List α) : (l.map fun _ => true).all id = true := by
  rw [List.all_eq_true]; intro x hx; obtain ⟨_, _, rfl⟩ := List.mem_map.mp hx; rfl
theorem all_true {α : Type} {l : List α} {M : Mst} {Q : DK} : dAll [.lst (l.filterMap fun _ => some (.bl true))] M Q = Q (.bl true) M := by
  rw [trues l _ fun _ _ => rfl, all_bls, all_trues]
theorem pairs_w : ∀ w : List Key, pairsD (w.map fun k => .tup [kD k, .bl true]) = some (w.map fun k => (k, .bl true))
  | [] => rfl
  | k :: w => by
    have ih := pairs_w w
    simp only [List.map_cons, pairsD, keyD_kD, ih]
theorem put_addK (tr : List Key) (k : Key) : putD (trD tr) k (.bl true) = trD (addK tr k) := by
  unfold addK
  by_cases h : k ∈ tr
  · rw [if_pos h]
    unfold putD
    rw [if_pos (by simp [trD]; exact h)]
    conv => rhs; rw [← List.map_id (trD tr)]
    apply List.map_congr_left
    intro q hq
    unfold trD at hq
    obtain ⟨x, _, rfl⟩ := List.mem_map.mp hq
    by_cases e : x = k <;> simp [e]
  · rw [if_neg h, put_tr h]
theorem putAll_tr : ∀ (w tr : List Key), putAllD (trD tr) (w.map fun k => (k, .bl true)) = trD (addAll tr w)
  | [], tr => rfl
  | k :: w, tr => by
    show putAllD (putD (trD tr) k (.bl true)) (w.map fun k => (k, .bl true)) = trD (addAll (addK tr k) w)
    rw [put_addK, putAll_tr w]
theorem add_len (tr : List Key) (k : Key) : (addK tr k).length ≤ tr.length + 1 := by unfold addK; split <;> simp
theorem addAll_len : ∀ (w tr : List Key), (addAll tr w).length ≤ tr.length + w.length
  | [], tr => Nat.le_refl _
  | k :: w, tr => by
    have := addAll_len w (addK tr k)
    have := add_len tr k
    show (addAll (addK tr k) w).length ≤ _
    simp only [List.length_cons]; omega
theorem where_ok (ds : List D) (M : Mst) (Q : DK) (Ed : DX → Mst → Prop) (h : upSp spWhere ds M Q Ed) : q__law_where spWhole (fun x _ M => Ed x M) (retE Q) (startD N__law_where ds) M := by
  obtain ⟨Q0, E0, ⟨ws, prs, band, a, b, rfl, nab, ma, mb, Sm, T, k0⟩, kq, _⟩ := h
  have few := Sm.few
  have wl : (kk ws).length = ws.length := by simp [kk]
  have tlen := T.len
  have bl : band.length ≤ ws.length := by
    have := nodup_le (l := band) (m := List.range ws.length) (T.up.imp fun h => Nat.ne_of_lt h) fun v hv => List.mem_range.mpr (by have := T.lt v hv; omega)
    simpa using this
  show qSeq _ _ _ _ [some (wsD (kk ws)), some (.tup [.ref a, .ref b]), none, none, none, none, none, none, none, none] M
  simp only [qOr, qNot, qSeq, qAsg, qTup, qCons, qNil, qOp, qUn, qC, qCall, qVar, qLst, newL_f, qIfS, qTB, qNext, qRet, qDrop, qFor, qCB, qAug, qSl, qPart, qNoPart, gNameD, gSub_eq, dInt_i, dInt0_i, dAdd_i, dCmpI_i, List.set_cons_zero, List.set_cons_succ, List.getElem?_cons_zero, List.getElem?_cons_succ, List.append_nil]
  rw [isi_one (x := .tup [.ref a, .ref b]) (M := M) rfl tt_]
  simp only [Bool.not_true, Bool.false_eq_true, if_false]
  have lenT : ∀ (M : Mst) (Q : DK), dLen [.tup [.ref a, .ref b]] M Q = Q (.int 2) M := fun M Q => by simp [dLen]
  rw [lenT, eq_int]
  simp only [decide_true, Bool.xor_true, Bool.not_true, Bool.false_eq_true, if_false]
  -- both are lists
  simp only [qNot, qLc, qiAny, qSeq, qAsg, qTup, qCons, qNil, qOp, qUn, qC, qCall, qVar, qLst, newL_f, qIfS, qTB, qNext, qRet, qDrop, qFor, qCB, qAug, qSl, qPart, qNoPart, gNameD, gSub_eq, dInt_i, dInt0_i, dAdd_i, dCmpI_i, List.set_cons_zero, List.set_cons_succ, List.getElem?_cons_zero, List.getElem?_cons_succ, List.append_nil]
  intro c hc
  have nac := ne_of_some ma hc
  have nbc := ne_of_some mb hc
  refine compL_map hc (fun _ => some (.bl true)) (fun _ => trivial) (by simp) (fun d hd acc R hR => ?_) ?_
  · simp only [wipeD, qYes, qSeq, qAsg, qTup, qCons, qNil, qOp, qUn, qC, qCall, qVar, qLst, newL_f, qIfS, qTB, qNext, qRet, qDrop, qFor, qCB, qAug, qSl, qPart, qNoPart, gNameD, gSub_eq, dInt_i, dInt0_i, dAdd_i, dCmpI_i, List.set_cons_zero, List.set_cons_succ, List.getElem?_cons_zero, List.getElem?_cons_succ, List.append_nil, if_true]
    simp only [List.mem_cons, List.not_mem_nil, or_false] at hd
    have isL : ∀ (q : Addr) (es : List D), put M c (.lst acc) q = some (.lst es) → dIsi [.ref q, .ty "list"] (put M c (.lst acc)) (fun y M4 => R (some y) M4) := fun q es hq => by
      rw [isi_one (x := .ref q) (M := put M c (.lst acc)) (b := true) (by rw [res_r hq]; rfl) (by rw [res_r hq]; exact ll)]
      exact hR
    rcases hd with rfl | rfl
    · exact isL a _ (by rw [put_ne nac]; exact ma)
    · exact isL b _ (by rw [put_ne nbc]; exact mb)
  simp only [Bool.false_eq_true, if_false]
  rw [all_true]
  simp only [Bool.not_true, Bool.false_eq_true, if_false]
  -- pairs, band = given
  simp only [gTupD, res_tup, gConsD, gNilD, qSeq, qAsg, qTup, qCons, qNil, qOp, qUn, qC, qCall, qVar, qLst, newL_f, qIfS, qTB, qNext, qRet, qDrop, qFor, qCB, qAug, qSl, qPart, qNoPart, gNameD, gSub_eq, dInt_i, dInt0_i, dAdd_i, dCmpI_i, List.set_cons_zero, List.set_cons_succ, List.getElem?_cons_zero, List.getElem?_cons_succ, List.append_nil, List.length_cons, List.length_nil]
  refine ⟨trivial, trivial, ?_⟩
  rw [len_r ma, wsD, len_l, ← wsD, eq_int]
  simp only [List.length_map, wl, tlen, decide_true, Bool.xor_true, Bool.not_true, Bool.false_eq_true, if_false]
  -- each holder fits its wish
  have zl : lstAt M (.ref a) = some (prs.map optD, holds a (.lst (prs.map optD))) := by simp [lstAt, ma]
  simp only [qiZip, qSeq, qAsg, qTup, qCons, qNil, qOp, qUn, qC, qCall, qVar, qLst, newL_f, qIfS, qTB, qNext, qRet, qDrop, qFor, qCB, qAug, qSl, qPart, qNoPart, gNameD, gSub_eq, dInt_i, dInt0_i, dAdd_i, dCmpI_i, List.set_cons_zero, List.set_cons_succ, List.getElem?_cons_zero, List.getElem?_cons_succ, List.append_nil]
  have zw : lstAt M (wsD (kk ws)) = some ((kk ws).map wD, always) := rfl
  rw [zw, zl]
  simp only
  refine loopL_inv (fun i p M' => ∃ x4 x5, p = [some (wsD (kk ws)), some (.tup [.ref a, .ref b]), some (.ref a), some (.ref b), x4, x5, none, none, none, none] ∧ M = M') (n := ws.length) (by simp [wl, tlen]) ?_ ?_ ⟨_, _, rfl, rfl⟩
  · rintro i d p M' R hd ⟨x4, x5, rfl, rfl⟩ hR
    have hi : i < ws.length := by
      have := (List.getElem?_eq_some_iff.mp hd).1
      simpa [wl, tlen] using this
    have hi2 : i < prs.length := by omega
    have ed : d = .tup [.lst (ws[i].map D.int), optD prs[i]] := by
      rw [zipD_get] at hd
      simp only [List.getElem?_map, get_kk, List.getElem?_eq_getElem hi, List.getElem?_eq_getElem hi2, Option.map_some, wD_i] at hd
      exact (Option.some.inj hd).symm
    subst ed
    refine ⟨⟨trivial, ma⟩, ?_⟩
    simp only [gTupD, res_tup, gConsD, gNilD, qSeq, qAsg, qTup, qCons, qNil, qOp, qUn, qC, qCall, qVar, qLst, newL_f, qIfS, qTB, qNext, qRet, qDrop, qFor, qCB, qAug, qSl, qPart, qNoPart, gNameD, gSub_eq, dInt_i, dInt0_i, dAdd_i, dCmpI_i, List.set_cons_zero, List.set_cons_succ, List.getElem?_cons_zero, List.getElem?_cons_succ, List.append_nil, List.length_cons, List.length_nil]
    refine ⟨trivial, trivial, ?_⟩
    simp only [qAnd, qOr, qNot, qSeq, qAsg, qTup, qCons, qNil, qOp, qUn, qC, qCall, qVar, qLst, newL_f, qIfS, qTB, qNext, qRet, qDrop, qFor, qCB, qAug, qSl, qPart, qNoPart, gNameD, gSub_eq, dInt_i, dInt0_i, dAdd_i, dCmpI_i, List.set_cons_zero, List.set_cons_succ, List.getElem?_cons_zero, List.getElem?_cons_succ, List.append_nil, dIs, isNon_optD]
    cases e : prs[i] with
    | none =>
      simp only [Option.isNone_none, Bool.xor_true, Bool.not_true, Bool.false_eq_true, if_false]
      exact hR _ _ ⟨_, _, rfl, rfl⟩
    | some q =>
      have hf := T.fit i q (by rw [List.getElem?_eq_getElem hi2, e])
      rw [ws_kk (List.getElem?_eq_getElem hi)] at hf
      obtain ⟨z, hz, rfl⟩ := List.mem_map.mp hf
      simp only [Option.isNone_some, Bool.xor_false, if_true, optD, kD]
      refine ⟨z, rfl, ?_⟩
      simp only [Bool.not_true, Bool.false_eq_true, if_false]
      rw [in_ints]
      simp only [hz, decide_true, Bool.xor_true, Bool.not_true, Bool.false_eq_true, if_false]
      exact hR _ _ ⟨_, _, rfl, rfl⟩
  rintro p M' ⟨x4, x5, rfl, rfl⟩
  refine ⟨⟨trivial, ma⟩, ?_⟩
  -- some = [..]
  have pl2 : prs.length ≤ 63 := by omega
  simp only [qLc, qiAny, qSeq, qAsg, qTup, qCons, qNil, qOp, qUn, qC, qCall, qVar, qLst, newL_f, qIfS, qTB, qNext, qRet, qDrop, qFor, qCB, qAug, qSl, qPart, qNoPart, gNameD, gSub_eq, dInt_i, dInt0_i, dAdd_i, dCmpI_i, List.set_cons_zero, List.set_cons_succ, List.getElem?_cons_zero, List.getElem?_cons_succ, List.append_nil, ma]
  intro c2 hc2
  have nac2 := ne_of_some ma hc2
  refine compL_map hc2 someF (fun acc => by show put M c2 _ a = _; rw [put_ne nac2]; exact ma) (by simp; omega) (fun d hd acc R hR => ?_) ?_
  · obtain ⟨o, _, rfl⟩ := List.mem_map.mp hd
    simp only [wipeD, qSeq, qAsg, qTup, qCons, qNil, qOp, qUn, qC, qCall, qVar, qLst, newL_f, qIfS, qTB, qNext, qRet, qDrop, qFor, qCB, qAug, qSl, qPart, qNoPart, gNameD, gSub_eq, dInt_i, dInt0_i, dAdd_i, dCmpI_i, List.set_cons_zero, List.set_cons_succ, List.getElem?_cons_zero, List.getElem?_cons_succ, List.append_nil, dIs, isNon_optD]
    cases o with
    | none => simp only [Option.isNone_none, Bool.xor_true, Bool.not_true, Bool.false_eq_true, if_false]; exact hR
    | some q =>
      simp only [Option.isNone_some, Bool.xor_false, if_true]
      have e : someF (optD (some q)) = some (optD (some q)) := by cases q <;> rfl
      rw [e] at hR
      exact hR
  simp only [Bool.false_eq_true, if_false, qSeq, qAsg, qTup, qCons, qNil, qOp, qUn, qC, qCall, qVar, qLst, newL_f, qIfS, qTB, qNext, qRet, qDrop, qFor, qCB, qAug, qSl, qPart, qNoPart, gNameD, gSub_eq, dInt_i, dInt0_i, dAdd_i, dCmpI_i, List.set_cons_zero, List.set_cons_succ, List.getElem?_cons_zero, List.getElem?_cons_succ, List.append_nil]
  rw [some_map]
  have sl : (prs.filterMap id).length ≤ prs.length := List.length_filterMap_le ..
  -- none twice
  simp only [qNot, qLc, qiAny, qSeq, qAsg, qTup, qCons, qNil, qOp, qUn, qC, qCall, qVar, qLst, newL_f, qIfS, qTB, qNext, qRet, qDrop, qFor, qCB, qAug, qSl, qPart, qNoPart, gNameD, gSub_eq, dInt_i, dInt0_i, dAdd_i, dCmpI_i, List.set_cons_zero, List.set_cons_succ, List.getElem?_cons_zero, List.getElem?_cons_succ, List.append_nil]
  intro c3 hc3
  refine compL_map hc3 (fun _ => some (.bl true)) (fun _ => trivial) (by simp; omega) (fun d hd acc R hR => ?_) ?_
  · obtain ⟨q, hq, rfl⟩ := List.mem_map.mp hd
    simp only [wipeD, qYes, qSeq, qAsg, qTup, qCons, qNil, qOp, qUn, qC, qCall, qVar, qLst, newL_f, qIfS, qTB, qNext, qRet, qDrop, qFor, qCB, qAug, qSl, qPart, qNoPart, gNameD, gSub_eq, dInt_i, dInt0_i, dAdd_i, dCmpI_i, List.set_cons_zero, List.set_cons_succ, List.getElem?_cons_zero, List.getElem?_cons_succ, List.append_nil, if_true, qBM]
    refine ⟨rfl, ?_⟩
    rw [cnt_keys, count_one T.nd hq, eq_int]
    exact hR
  simp only [Bool.false_eq_true, if_false]
  rw [all_true]
  simp only [Bool.not_true, Bool.false_eq_true, if_false]
  -- the band's places
  simp only [qNot, qLc, qiAny, qSeq, qAsg, qTup, qCons, qNil, qOp, qUn, qC, qCall, qVar, qLst, newL_f, qIfS, qTB, qNext, qRet, qDrop, qFor, qCB, qAug, qSl, qPart, qNoPart, gNameD, gSub_eq, dInt_i, dInt0_i, dAdd_i, dCmpI_i, List.set_cons_zero, List.set_cons_succ, List.getElem?_cons_zero, List.getElem?_cons_succ, List.append_nil, mb]
  intro c4 hc4
  have nbc4 := ne_of_some mb hc4
  refine compL_map hc4 (fun _ => some (.bl true)) (fun acc => by show put M c4 _ b = _; rw [put_ne nbc4]; exact mb) (by simp [natsD]; omega) (fun d hd acc R hR => ?_) ?_
  · unfold natsD at hd
    obtain ⟨v, hv, rfl⟩ := List.mem_map.mp hd
    have := T.lt v hv
    simp only [wipeD, qYes, qSeq, qAsg, qTup, qCons, qNil, qOp, qUn, qC, qCall, qVar, qLst, newL_f, qIfS, qTB, qNext, qRet, qDrop, qFor, qCB, qAug, qSl, qPart, qNoPart, gNameD, gSub_eq, dInt_i, dInt0_i, dAdd_i, dCmpI_i, List.set_cons_zero, List.set_cons_succ, List.getElem?_cons_zero, List.getElem?_cons_succ, List.append_nil, if_true, qAndV]
    refine ⟨v, rfl, ?_⟩
    simp only [if_true, qChain, qSeq, qAsg, qTup, qCons, qNil, qOp, qUn, qC, qCall, qVar, qLst, newL_f, qIfS, qTB, qNext, qRet, qDrop, qFor, qCB, qAug, qSl, qPart, qNoPart, gNameD, gSub_eq, dInt_i, dInt0_i, dAdd_i, dCmpI_i, List.set_cons_zero, List.set_cons_succ, List.getElem?_cons_zero, List.getElem?_cons_succ, List.append_nil, wsD, len_l', List.length_map]
    have e1 : decide ((0 : Int) ≤ (v : Int)) = true := by simp
    have e2 : decide ((v : Int) < ((kk ws).length : Int)) = true := by simp; omega
    rw [e1, e2]
    simp only [if_true]
    exact hR
  simp only [Bool.false_eq_true, if_false]
  rw [all_true]
  simp only [Bool.not_true, Bool.false_eq_true, if_false]
  -- the band rises
  have nl : (natsD band).length = band.length := by simp [natsD]
  simp only [qNot, qLc, qiRng1, qSeq, qAsg, qTup, qCons, qNil, qOp, qUn, qC, qCall, qVar, qLst, newL_f, qIfS, qTB, qNext, qRet, qDrop, qFor, qCB, qAug, qSl, qPart, qNoPart, gNameD, gSub_eq, dInt_i, dInt0_i, dAdd_i, dCmpI_i, List.set_cons_zero, List.set_cons_succ, List.getElem?_cons_zero, List.getElem?_cons_succ, List.append_nil, len_r mb, nl]
  refine ⟨by omega, by omega, ?_⟩
  intro c5 hc5
  have nbc5 := ne_of_some mb hc5
  refine compL_map hc5 (fun _ => some (.bl true)) (fun _ => trivial) (by simp [rangeD]; omega) (fun d hd acc R hR => ?_) ?_
  · unfold rangeD at hd
    obtain ⟨v, hv, rfl⟩ := List.mem_map.mp hd
    rw [List.mem_range] at hv
    simp only [wipeD, qYes, qSeq, qAsg, qTup, qCons, qNil, qOp, qUn, qC, qCall, qVar, qLst, newL_f, qIfS, qTB, qNext, qRet, qDrop, qFor, qCB, qAug, qSl, qPart, qNoPart, gNameD, gSub_eq, dInt_i, dInt0_i, dAdd_i, dCmpI_i, List.set_cons_zero, List.set_cons_succ, List.getElem?_cons_zero, List.getElem?_cons_succ, List.append_nil, if_true]
    have hv1 : v < band.length := by omega
    have hv2 : v + 1 < band.length := by omega
    have g : ∀ u : Nat, (hu : u < band.length) → atI (natsD band) (u : Int) = some (.int (band[u] : Int)) := fun u hu => by
      rw [atI_n]; unfold natsD; rw [List.getElem?_map, List.getElem?_eq_getElem hu]; rfl
    have m5 : put M c5 (.lst acc) b = some (.lst (natsD band)) := by rw [put_ne nbc5]; exact mb
    have e0 : (0 : Int) + (v : Int) = (v : Int) := by omega
    have e1 : (v : Int) + 1 = ((v + 1 : Nat) : Int) := by omega
    rw [e0, e1, ix_r m5 (g v hv1), ix_r m5 (g (v + 1) hv2)]
    have lt := List.pairwise_iff_getElem.mp T.up v (v + 1) hv1 hv2 (by omega)
    have e2 : decide ((band[v] : Int) < (band[v + 1] : Int)) = true := by simp; omega
    simp only [dCmpI_i, e2]
    exact hR
  simp only [Bool.false_eq_true, if_false]
  rw [all_true]
  simp only [Bool.not_true, Bool.false_eq_true, if_false]
  -- the holders that fit
  simp only [qDNew, qSeq, qAsg, qTup, qCons, qNil, qOp, qUn, qC, qCall, qVar, qLst, newL_f, qIfS, qTB, qNext, qRet, qDrop, qFor, qCB, qAug, qSl, qPart, qNoPart, gNameD, gSub_eq, dInt_i, dInt0_i, dAdd_i, dCmpI_i, List.set_cons_zero, List.set_cons_succ, List.getElem?_cons_zero, List.getElem?_cons_succ, List.append_nil]
  intro f hf
  have nbf := ne_of_some mb hf
  have naf := ne_of_some ma hf
  have mb2 : ∀ o, put M f o b = some (.lst (natsD band)) := fun o => by rw [put_ne nbf]; exact mb
  simp only [qiAny, qSeq, qAsg, qTup, qCons, qNil, qOp, qUn, qC, qCall, qVar, qLst, newL_f, qIfS, qTB, qNext, qRet, qDrop, qFor, qCB, qAug, qSl, qPart, qNoPart, gNameD, gSub_eq, dInt_i, dInt0_i, dAdd_i, dCmpI_i, List.set_cons_zero, List.set_cons_succ, List.getElem?_cons_zero, List.getElem?_cons_succ, List.append_nil, mb2]
  refine loopL_inv (fun i p M' => ∃ x4 x5, p = [some (wsD (kk ws)), some (.tup [.ref a, .ref b]), some (.ref a), some (.ref b), x4, x5, some (.lst ((prs.filterMap id).map kD)), some (.ref f), none, none] ∧ M' = put M f (.dK (trD (fitOf (kk ws) (band.take i)))) ∧ (fitOf (kk ws) (band.take i)).length ≤ 63 * i) (n := band.length) nl.symm ?_ ?_ ⟨_, _, rfl, rfl, by simp [fitOf]⟩
  · rintro i d p M' R hd ⟨x4, x5, rfl, rfl, hfl⟩ hR
    have hi : i < band.length := by
      have := (List.getElem?_eq_some_iff.mp hd).1
      simpa [nl] using this
    have ed : d = .int (band[i] : Int) := by
      unfold natsD at hd
      rw [List.getElem?_map, List.getElem?_eq_getElem hi] at hd
      exact (Option.some.inj hd).symm
    subst ed
    have hv : band[i] < ws.length := by have := T.lt _ (List.getElem_mem hi); omega
    refine ⟨mb2 _, ?_⟩
    simp only [qSeq, qAsg, qTup, qCons, qNil, qOp, qUn, qC, qCall, qVar, qLst, newL_f, qIfS, qTB, qNext, qRet, qDrop, qFor, qCB, qAug, qSl, qPart, qNoPart, gNameD, gSub_eq, dInt_i, dInt0_i, dAdd_i, dCmpI_i, List.set_cons_zero, List.set_cons_succ, List.getElem?_cons_zero, List.getElem?_cons_succ, List.append_nil, qBMD]
    refine ⟨⟨f, _, rfl, put_same⟩, ?_⟩
    simp only [qLc, qiAny, qSeq, qAsg, qTup, qCons, qNil, qOp, qUn, qC, qCall, qVar, qLst, newL_f, qIfS, qTB, qNext, qRet, qDrop, qFor, qCB, qAug, qSl, qPart, qNoPart, gNameD, gSub_eq, dInt_i, dInt0_i, dAdd_i, dCmpI_i, List.set_cons_zero, List.set_cons_succ, List.getElem?_cons_zero, List.getElem?_cons_succ, List.append_nil]
    rw [wsD, ix_l (d := wD (ws[band[i]].map Sum.inl)) (by rw [atI_n, List.getElem?_map, get_kk, List.getElem?_eq_getElem hv]; rfl), ← wsD]
    simp only [wD]
    intro c6 hc6
    have nfc : f ≠ c6 := fun e => by rw [e, put_same] at hc6; cases hc6
    have wle : ws[band[i]].length ≤ 63 := Sm.each _ (List.getElem_mem hv)
    refine compL_map hc6 (fun d => some (.tup [d, .bl true])) (fun _ => trivial) (by simp; omega) (fun d hd acc R hR => ?_) ?_
    · simp only [wipeD, qYes, qSeq, qAsg, qTup, qCons, qNil, qOp, qUn, qC, qCall, qVar, qLst, newL_f, qIfS, qTB, qNext, qRet, qDrop, qFor, qCB, qAug, qSl, qPart, qNoPart, gNameD, gSub_eq, dInt_i, dInt0_i, dAdd_i, dCmpI_i, List.set_cons_zero, List.set_cons_succ, List.getElem?_cons_zero, List.getElem?_cons_succ, List.append_nil, if_true]
      exact ⟨by simp, hR⟩
    simp only [Bool.false_eq_true, if_false]
    have em : ((ws[band[i]].map Sum.inl).map kD).filterMap (fun d => some (.tup [d, .bl true])) = (ws[band[i]].map Sum.inl).map fun k => D.tup [kD k, .bl true] := by
      rw [List.filterMap_map]
      generalize ws[band[i]].map Sum.inl = w
      induction w with
      | nil => rfl
      | cons x w ih => simpa using ih
    rw [em]
    unfold mUpd
    simp only [put_same, res_lst, pairs_w, put_put, putAll_tr]
    refine ⟨by simp [trD]; omega, hR _ _ ⟨_, _, rfl, ?_, ?_⟩⟩
    · rw [List.take_succ, List.getElem?_eq_getElem hi]
      unfold fitOf
      rw [List.foldl_append]
      simp only [Option.toList_some, List.foldl_cons, List.foldl_nil, ws_kk (List.getElem?_eq_getElem hv)]
    · rw [List.take_succ, List.getElem?_eq_getElem hi]
      unfold fitOf at hfl ⊢
      rw [List.foldl_append]
      simp only [Option.toList_some, List.foldl_cons, List.foldl_nil, ws_kk (List.getElem?_eq_getElem hv)]
      have := addAll_len (ws[band[i]].map Sum.inl) (List.foldl (fun tr v => addAll tr (ws_ (kk ws) v)) [] (band.take i))
      rw [List.length_map] at this
      omega
  rintro p M' ⟨x4, x5, rfl, rfl, hfl⟩
  refine ⟨mb2 _, ?_⟩
  rw [List.take_length]
  have ma2 : put M f (.dK (trD (fitOf (kk ws) band))) a = some (.lst (prs.map optD)) := by rw [put_ne naf]; exact ma
  have lf : ∀ (Q : DK), dLen [.ref f] (put M f (.dK (trD (fitOf (kk ws) band)))) Q = Q (.int ((fitOf (kk ws) band).length : Nat)) (put M f (.dK (trD (fitOf (kk ws) band)))) := fun Q => by
    simp [dLen, res, trD]
  simp only [qIf, qSeq, qAsg, qTup, qCons, qNil, qOp, qUn, qC, qCall, qVar, qLst, newL_f, qIfS, qTB, qNext, qRet, qDrop, qFor, qCB, qAug, qSl, qPart, qNoPart, gNameD, gSub_eq, dInt_i, dInt0_i, dAdd_i, dCmpI_i, List.set_cons_zero, List.set_cons_succ, List.getElem?_cons_zero, List.getElem?_cons_succ, List.append_nil, len_r ma2, len_r (mb2 _), len_l', lf, List.length_map, nl]
  have many := T.many
  rw [eq_int]
  have e1 : ((prs.length : Nat) : Int) - ((prs.filterMap id).length : Nat) = ((band.length : Nat) : Int) - ((fitOf (kk ws) band).length : Nat) := by omega
  simp only [e1, decide_true, Bool.false_xor, if_true]
  exact kq _ _ _ ((Sub.refl M).put hf) k0
theorem pre_kk {ws : List (List Int)} (S : Small ws) : PairPre (kk ws) := ⟨by simp [kk]; exact S.few, fun w hw => by
  obtain ⟨x, hx, rfl⟩ := List.mem_map.mp hw
  have := S.each x hx
  simpa using this⟩
theorem cp_ints (n : Nat) (w : List Int) : (w.map D.int).all (cp (n + 1)) = true := List.all_eq_true.mpr fun x hx => by
  obtain ⟨i, _, rfl⟩ := List.mem_map.mp hx; rfl
theorem cp_W {ws : List (List Int)} (S : Small ws) : cp 3 (wsD (kk ws)) = true := by
  have few := S.few
  unfold wsD
  rw [cp, Bool.and_eq_true, decide_eq_true_eq]
  refine ⟨by simp [kk]; omega, List.all_eq_true.mpr fun x hx => ?_⟩
  unfold kk at hx
  rw [List.map_map] at hx
  obtain ⟨w, hw, rfl⟩ := List.mem_map.mp hx
  show cp 2 (wD (w.map Sum.inl)) = true
  have := S.each w hw
  rw [wD_i, cp, Bool.and_eq_true, decide_eq_true_eq]
  exact ⟨by simp; omega, cp_ints 0 w⟩
theorem any_none (prs : List (Option Key)) : ((prs.map optD).any fun e => deq e .non) = prs.any Option.isNone := by
  rw [List.any_map]
  congr 1
  funext o
  cases o with
  | none => simp [deq, optD, pyd, PyData.eqv]
  | some k => cases k <;> simp [deq, optD, kD, pyd, PyData.eqv]
theorem flat_opts (prs : List (Option Key)) : (prs.map optD).all flatD = true := List.all_eq_true.mpr fun x hx => by
  obtain ⟨o, _, rfl⟩ := List.mem_map.mp hx
  cases o with
  | none => rfl
  | some k => cases k <;> rfl
/-- one asking and one look at what is told -/
theorem ask {ws : List (List Int)} (S : Small ws) {M : Mst} {Q : DK} {E : DX → Mst → Prop}
    (h : ∀ a b, a ≠ b → Q (.tup [.ref a, .ref b]) (put (put M a (.lst ((prsOf (kk ws)).map optD))) b (.lst (natsD (bandOf (kk ws)))))) : spPairedM [wsD (kk ws)] M Q E :=
  ⟨kk ws, rfl, pre_kk S, fun a b nab _ _ => h a b nab⟩
theorem seen {ws : List (List Int)} (S : Small ws) {M : Mst} {Q : DK} {E : DX → Mst → Prop} {a b : Addr} (nab : a ≠ b)
    (ma : M a = some (.lst ((prsOf (kk ws)).map optD))) (mb : M b = some (.lst (natsD (bandOf (kk ws))))) (h : Q (.str (PySem.Str.ofString "")) M) : spWhere [wsD (kk ws), .tup [.ref a, .ref b]] M Q E :=
  ⟨ws, prsOf (kk ws), bandOf (kk ws), a, b, rfl, nab, ma, mb, S, told (pre_kk S), h⟩
theorem dep_nats (l : List Nat) : dep (.lst (natsD l)) ≤ 64 := Nat.le_trans (dep_lst (n := 0) fun d hd => by
  unfold natsD at hd
  obtain ⟨v, _, rfl⟩ := List.mem_map.mp hd
  rw [dep_flat rfl]; exact Nat.le_refl _) (by decide)
theorem law_ok (ds : List D) (M : Mst) (Q : DK) (Ed : DX → Mst → Prop) (h : upSp spLaw ds M Q Ed) : q_law spBag (spCopied 3) spWhere spWishes spPairedM (fun x _ M => Ed x M) (retE Q) (startD N_law ds) M := by
  obtain ⟨Q0, E0, ⟨ns, rfl, hns, hM, k0⟩, kq, _⟩ := h
  have k : ∀ M', Q (.bl true) M' := fun M' => kq _ _ _ (Sub.refl _) (k0 M')
  show qSeq _ _ _ _ [some (.scr ns), none, none, none, none, none, none] M
  simp only [qiRng1, qSeq, qAsg, qTup, qCons, qNil, qOp, qUn, qC, qCall, qVar, qLst, newL_f, qIfS, qTB, qNext, qRet, qDrop, qFor, qCB, qAug, qSl, qPart, qNoPart, gNameD, gSub_eq, dInt_i, dInt0_i, dAdd_i, dCmpI_i, List.set_cons_zero, List.set_cons_succ, List.getElem?_cons_zero, List.getElem?_cons_succ, List.append_nil, len_s', dMin2_i, dMax2_i]
  refine ⟨by split <;> split <;> omega, by split <;> split <;> omega, ?_⟩
  generalize hv : (if (if (ns.length : Int) < 8 then (ns.length : Int) else 8) > 4 then (if (ns.length : Int) < 8 then (ns.length : Int) else 8) else 4) = v
  have v8 : v ≤ 8 := by rw [← hv]; split <;> split <;> omega
  clear hv
  refine loopL_inv (fun i p M' => ∃ x1 x2 x3 x4 x5 x6, p = [some (.scr ns), x1, x2, x3, x4, x5, x6]) (n := v.toNat) (by simp [rangeD]) ?_ ?_ ⟨_, _, _, _, _, _, rfl⟩
  · rintro i d p M' R hd ⟨x1, x2, x3, x4, x5, x6, rfl⟩ hR
    have hi : i < v.toNat := by
      have := (List.getElem?_eq_some_iff.mp hd).1
      simpa [rangeD] using this
    have ed : d = .int (i : Int) := by
      simp [rangeD, hi] at hd; exact hd.symm
    subst ed
    refine ⟨trivial, ?_⟩
    simp only [qSeq, qAsg, qTup, qCons, qNil, qOp, qUn, qC, qCall, qVar, qLst, newL_f, qIfS, qTB, qNext, qRet, qDrop, qFor, qCB, qAug, qSl, qPart, qNoPart, gNameD, gSub_eq, dInt_i, dInt0_i, dAdd_i, dCmpI_i, List.set_cons_zero, List.set_cons_succ, List.getElem?_cons_zero, List.getElem?_cons_succ, List.append_nil]
    refine ⟨ns, i, rfl, by omega, by omega, fun bag hbag => ⟨bag, 24, rfl, put_same, by decide, by decide, fun ws hw5 hw6 => ?_⟩⟩
    have S : Small ws := ⟨by omega, fun w hw => by have := hw6 w hw; omega⟩
    simp only [qiRng1, qSeq, qAsg, qTup, qCons, qNil, qOp, qUn, qC, qCall, qVar, qLst, newL_f, qIfS, qTB, qNext, qRet, qDrop, qFor, qCB, qAug, qSl, qPart, qNoPart, gNameD, gSub_eq, dInt_i, dInt0_i, dAdd_i, dCmpI_i, List.set_cons_zero, List.set_cons_succ, List.getElem?_cons_zero, List.getElem?_cons_succ, List.append_nil]
    refine ⟨by decide, by decide, ?_⟩
    refine loopL_inv (fun j p M' => ∃ x1 x3 x4 x5 x6, p = [some (.scr ns), x1, some (wsD (kk ws)), x3, x4, x5, x6]) (n := 2) (by simp [rangeD]) ?_ ?_ ⟨_, _, _, _, _, rfl⟩
    · rintro j d p M2 R2 hd ⟨x1, x3, x4, x5, x6, rfl⟩ hR2
      have ed : ∃ z : Int, d = .int z := by
        have hm := List.mem_of_getElem? hd
        unfold rangeD at hm
        obtain ⟨z, _, rfl⟩ := List.mem_map.mp hm
        exact ⟨_, rfl⟩
      obtain ⟨z, rfl⟩ := ed
      refine ⟨trivial, ?_⟩
      simp only [qSeq, qAsg, qTup, qCons, qNil, qOp, qUn, qC, qCall, qVar, qLst, newL_f, qIfS, qTB, qNext, qRet, qDrop, qFor, qCB, qAug, qSl, qPart, qNoPart, gNameD, gSub_eq, dInt_i, dInt0_i, dAdd_i, dCmpI_i, List.set_cons_zero, List.set_cons_succ, List.getElem?_cons_zero, List.getElem?_cons_succ, List.append_nil]
      refine ⟨wsD (kk ws), rfl, cp_W S, ?_⟩
      -- asked by place or by name
      have both : ∀ (p : Rho) (R3 : DK), p[3]? = some (some (.int z)) → p[4]? = some (some (wsD (kk ws))) → (∀ a b, a ≠ b → R3 (.tup [.ref a, .ref b]) (put (put M2 a (.lst ((prsOf (kk ws)).map optD))) b (.lst (natsD (bandOf (kk ws)))))) →
          (qIf (qTB (qOp (dEq false) (qVar 3) (qC (.int 0)))) (qCall spPairedM [] (qCons (qVar 4) qNil)) (qCallKw 0 1 spPairedM [0] qNil (qCons (qVar 4) qNil))) (fun x _ M => Ed x M) p M2 R3 := fun p R3 h3 h4 h => by
        simp only [qIf, qCallKw, qSeq, qAsg, qTup, qCons, qNil, qOp, qUn, qC, qCall, qVar, qLst, newL_f, qIfS, qTB, qNext, qRet, qDrop, qFor, qCB, qAug, qSl, qPart, qNoPart, gNameD, gSub_eq, dInt_i, dInt0_i, dAdd_i, dCmpI_i, List.set_cons_zero, List.set_cons_succ, List.getElem?_cons_zero, List.getElem?_cons_succ, List.append_nil, h3, h4]
        rw [eq_int]
        by_cases e : decide (z = 0) = true
        · simp only [e, Bool.false_xor, if_true]
          exact ask S h
        · have e' : decide (z = 0) = false := by simpa using e
          simp only [e', Bool.false_xor, Bool.false_eq_true, if_false]
          exact ⟨rfl, rfl, ask S h⟩
      apply both _ _ rfl rfl
      intro a b nab
      have nba := Ne.symm nab
      have ma : put (put M2 a (.lst ((prsOf (kk ws)).map optD))) b (.lst (natsD (bandOf (kk ws)))) a = some (.lst ((prsOf (kk ws)).map optD)) := by rw [put_ne nab, put_same]
      have mb : put (put M2 a (.lst ((prsOf (kk ws)).map optD))) b (.lst (natsD (bandOf (kk ws)))) b = some (.lst (natsD (bandOf (kk ws)))) := put_same
      generalize put (put M2 a (.lst ((prsOf (kk ws)).map optD))) b (.lst (natsD (bandOf (kk ws)))) = M3 at ma mb ⊢
      simp only [qOr, qSeq, qAsg, qTup, qCons, qNil, qOp, qUn, qC, qCall, qVar, qLst, newL_f, qIfS, qTB, qNext, qRet, qDrop, qFor, qCB, qAug, qSl, qPart, qNoPart, gNameD, gSub_eq, dInt_i, dInt0_i, dAdd_i, dCmpI_i, List.set_cons_zero, List.set_cons_succ, List.getElem?_cons_zero, List.getElem?_cons_succ, List.append_nil]
      refine seen S nab ma mb ?_
      have T := told (pre_kk S)
      show dEq true (.str (PySem.Str.ofString "")) (.str (PySem.Str.ofString "")) M3 _
      rw [eq_str]
      simp only [decide_true, Bool.xor_true, Bool.not_true, Bool.false_eq_true, if_false]
      rw [eq_same (d := wsD (kk ws)) rfl rfl (data_W ws) (dep_W ws)]
      simp only [Bool.not_true, Bool.false_eq_true, if_false]
      -- the band where none is without
      have t0 : ∀ (M : Mst) (Q : DK), dIx (.tup [.ref a, .ref b]) (.int 0) M Q = Q (.ref a) M := fun M Q => ix_t atI_0
      have t1 : ∀ (M : Mst) (Q : DK), dIx (.tup [.ref a, .ref b]) (.int 1) M Q = Q (.ref b) M := fun M Q => ix_t atI_1
      have inN : ∀ (Q : DK), dIn true .non (.ref a) M3 Q = Q (.bl (!(prsOf (kk ws)).any Option.isNone)) M3 := fun Q => by
        unfold dIn
        simp only [dgetD, ma, keyD, Option.map_none, res, any_none, flat_opts]
        simp [flatD]
      simp only [qAnd, qSeq, qAsg, qTup, qCons, qNil, qOp, qUn, qC, qCall, qVar, qLst, newL_f, qIfS, qTB, qNext, qRet, qDrop, qFor, qCB, qAug, qSl, qPart, qNoPart, gNameD, gSub_eq, dInt_i, dInt0_i, dAdd_i, dCmpI_i, List.set_cons_zero, List.set_cons_succ, List.getElem?_cons_zero, List.getElem?_cons_succ, List.append_nil, t0, inN]
      by_cases hn : (prsOf (kk ws)).any Option.isNone = true
      case' pos =>
        simp only [hn, Bool.not_true, Bool.false_eq_true, if_false]
      case' neg =>
        have hn' : (prsOf (kk ws)).any Option.isNone = false := by cases z2 : (prsOf (kk ws)).any Option.isNone with | false => rfl | true => exact absurd z2 hn
        simp only [hn', Bool.not_false, if_true, t1, List.length_nil]
        refine ⟨by decide, ?_⟩
        rw [eq_nil (res_r mb) (isData_nats _)]
        have e : bandOf (kk ws) = [] := T.no fun v hv => by
          have := List.any_eq_false.mp hn' none (List.mem_of_getElem? hv)
          simp at this
        have e3 : (natsD (bandOf (kk ws))).isEmpty = true := by rw [e]; rfl
        rw [e3]
        simp only [Bool.xor_true, Bool.not_true, Bool.false_eq_true, if_false]
      all_goals
        have few := S.few
        have kl : (kk ws).length = ws.length := by simp [kk]
        have pl := T.len
        have bl : (bandOf (kk ws)).length ≤ ws.length := by
          have := nodup_le (l := bandOf (kk ws)) (m := List.range ws.length) (T.up.imp fun h => Nat.ne_of_lt h) fun v hv => List.mem_range.mpr (by have := T.lt v hv; omega)
          simpa using this
        simp only [qSeq, qAsg, qTup, qCons, qNil, qOp, qUn, qC, qCall, qVar, qLst, newL_f, qIfS, qTB, qNext, qRet, qDrop, qFor, qCB, qAug, qSl, qPart, qNoPart, gNameD, gSub_eq, dInt_i, dInt0_i, dAdd_i, dCmpI_i, List.set_cons_zero, List.set_cons_succ, List.getElem?_cons_zero, List.getElem?_cons_succ, List.append_nil, t1, dList, res_r mb]
        simp only [qBM, qSeq, qAsg, qTup, qCons, qNil, qOp, qUn, qC, qCall, qVar, qLst, newL_f, qIfS, qTB, qNext, qRet, qDrop, qFor, qCB, qAug, qSl, qPart, qNoPart, gNameD, gSub_eq, dInt_i, dInt0_i, dAdd_i, dCmpI_i, List.set_cons_zero, List.set_cons_succ, List.getElem?_cons_zero, List.getElem?_cons_succ, List.append_nil, t0]
        refine ⟨by rw [res_r ma]; rfl, ?_⟩
        unfold mApp
        simp only [ma]
        refine ⟨by simp; omega, ?_⟩
        simp only [qSeq, qAsg, qTup, qCons, qNil, qOp, qUn, qC, qCall, qVar, qLst, newL_f, qIfS, qTB, qNext, qRet, qDrop, qFor, qCB, qAug, qSl, qPart, qNoPart, gNameD, gSub_eq, dInt_i, dInt0_i, dAdd_i, dCmpI_i, List.set_cons_zero, List.set_cons_succ, List.getElem?_cons_zero, List.getElem?_cons_succ, List.append_nil, t1]
        have mb2 : put M3 a (.lst ((prsOf (kk ws)).map optD ++ [.non])) b = some (.lst (natsD (bandOf (kk ws)))) := by rw [put_ne nba]; exact mb
        rw [eq_same (d := .lst (natsD (bandOf (kk ws)))) (res_r mb2) rfl (by rw [isData, isDataL_all]; exact isData_nats _) (dep_nats _)]
        simp only [Bool.not_true, Bool.false_eq_true, if_false]
        refine ⟨by rw [res_r mb2]; rfl, ?_⟩
        simp only [mb2]
        refine ⟨by simp [natsD]; omega, ?_⟩
        exact hR2 _ _ ⟨_, _, _, _, _, rfl⟩
    · rintro p M2 ⟨x1, x3, x4, x5, x6, rfl⟩
      exact ⟨trivial, hR _ _ ⟨_, _, _, _, _, _, rfl⟩⟩
  · rintro p M' ⟨x1, x2, x3, x4, x5, x6, rfl⟩
    refine ⟨trivial, ?_⟩
    have S0 : Small [] := ⟨by decide, fun _ h => (by cases h)⟩
    have S1 : Small [[], [7]] := ⟨by decide, fun w h => by simp at h; rcases h with rfl | rfl <;> decide⟩
    have W0 : D.lst [] = wsD (kk []) := rfl
    have W1 : D.lst [.lst [], .lst [.int 7]] = wsD (kk [[], [7]]) := rfl
    simp only [qAndV, qSeq, qAsg, qTup, qCons, qNil, qOp, qUn, qC, qCall, qVar, qLst, newL_f, qIfS, qTB, qNext, qRet, qDrop, qFor, qCB, qAug, qSl, qPart, qNoPart, gNameD, gSub_eq, dInt_i, dInt0_i, dAdd_i, dCmpI_i, List.set_cons_zero, List.set_cons_succ, List.getElem?_cons_zero, List.getElem?_cons_succ, List.append_nil, List.length_nil, List.length_cons]
    refine ⟨by decide, by decide, ?_⟩
    refine ask S0 fun a b nab => ?_
    refine seen S0 nab (by rw [put_ne nab, put_same]) put_same ?_
    show dEq false (.str (PySem.Str.ofString "")) (.str (PySem.Str.ofString "")) _ _
    rw [eq_str]
    simp only [decide_true, Bool.false_xor, if_true]
    refine ⟨by decide, by decide, by decide, by decide, by decide, by decide, ?_⟩
    refine ask S1 fun a b nab => ?_
    refine seen S1 nab (by rw [put_ne nab, put_same]) put_same ?_
    show dEq false (.str (PySem.Str.ofString "")) (.str (PySem.Str.ofString "")) _ _
    rw [eq_str]
    simp only [decide_true, Bool.false_xor]
    exact k _
end K11

namespace K11
open PySem L2 DL Pair
abbrev LEVEL : Nat := 66
section
variable {P : Program} {w : World} {K : PySem.W.Frag} {mg : Str → Option Value} {base : Heap}
theorem ok_gets (T : Tx K mg) : ∀ n, FnOk P w K mg base (L2.CX P w) n T.f_gets_holder.f T.f_gets_holder.fd ["wishes", "held", "wish", "tried"] (toSp K (spGets n))
  | 0 => fn_void fun _ _ _ _ ⟨_, _, _, _, _, _, _, _, _, _, _, _, _, h, _⟩ => Nat.not_lt_zero _ h
  | n + 1 => dv_gets_holder T (ok_gets T n) (fun _ _ _ _ ⟨_, _, _, _, _, _, e, _⟩ => by rw [e]; rfl) (gets_ok n)
theorem ok_copied (T : Tx K mg) : ∀ n, FnOk P w K mg base (L2.CX P w) n T.f__law_copied.f T.f__law_copied.fd ["_law_given"] (toSp K (spCopied n))
  | 0 => fn_void fun _ _ _ _ ⟨d, _, h, _⟩ => by cases d <;> cases h
  | n + 1 => dv__law_copied T (ok_copied T n) (fun _ _ _ _ ⟨_, e, _⟩ => by rw [e]; rfl) (copied_ok n)
theorem ok_law (T : Tx K mg) (base : Heap) : FnOk P w K mg base (L2.CX P w) LEVEL T.f_law.f T.f_law.fd ["_law_script"] (toSp K spLaw) := by
  have Gt : FnOk P w K mg base (L2.CX P w) 1 T.f__law_take.f T.f__law_take.fd ["_law_bag_here", "_law_many"] (toSp K spTake) :=
    (dv__law_take (k := 0) T (fun _ _ _ _ ⟨_, _, _, _, e, _⟩ => by rw [e]; rfl) take_ok).imp fun _ _ _ _ h => imp_take h
  have Gb : FnOk P w K mg base (L2.CX P w) 1 T.f__law_bag.f T.f__law_bag.fd ["_law_script", "_law_at"] (toSp K spBag) :=
    (dv__law_bag (k := 0) T (fun _ _ _ _ ⟨_, _, e, _⟩ => by rw [e]; rfl) bag_ok).imp fun _ _ _ _ h => imp_bag h
  have Gw : FnOk P w K mg base (L2.CX P w) 2 T.f__law_wishes.f T.f__law_wishes.fd ["_law_bag_here", "_law_most"] (toSp K spWishes) := dv__law_wishes T Gt (fun _ _ _ _ ⟨_, _, e, _⟩ => by rw [e]; rfl) wishes_ok
  have Gh : FnOk P w K mg base (L2.CX P w) 1 T.f__law_whole.f T.f__law_whole.fd ["_law_given"] (toSp K spWhole) := dv__law_whole (k := 0) T (fun _ _ _ _ ⟨_, e, _⟩ => by rw [e]; rfl) whole_ok
  have Ge : FnOk P w K mg base (L2.CX P w) 2 T.f__law_where.f T.f__law_where.fd ["_law_wants", "_law_given"] (toSp K spWhere) := dv__law_where T Gh (fun _ _ _ _ ⟨_, _, _, _, _, e, _⟩ => by rw [e]; rfl) where_ok
  have Gn : FnOk P w K mg base (L2.CX P w) 1 T.f_band_of.f T.f_band_of.fd ["wishes", "pairs", "held"] (toSp K (spBandG true)) := dv_band_of (k := 0) T (fun _ _ _ _ ⟨_, _, _, _, _, e, _⟩ => by rw [e]; rfl) (band_ok true)
  have Gp : FnOk P w K mg base (L2.CX P w) 65 T.f_paired.f T.f_paired.fd ["wishes"] (toSp K spPairedM) := dv_paired T (Gn.mono (by decide)) (ok_gets T 64) (fun _ _ _ _ ⟨_, e, _⟩ => by rw [e]; rfl) pairedM_ok
  exact dv_law T (Gb.mono (by decide)) ((ok_copied T 3).mono (by decide)) (Ge.mono (by decide)) (Gw.mono (by decide)) Gp (fun _ _ _ _ ⟨_, e, _⟩ => by rw [e]; rfl) law_ok
end
end K11

open PySem PySem.W PyProof.Rows in
set_option maxRecDepth 100000 in
set_option maxHeartbeats 0 in
theorem PySem.Challenge.cw_whistleboard_k11_paired_holds : PySem.Challenge.rw_whistleboard_k11_paired.Holds := by
  w_on; o_law; k_head; (case hw => w_witness2)
  k_fill
  refine DL.walk (l := PySem.Challenge.rw_whistleboard_k11_paired) (k := K11.LEVEL) (by decide) rfl rfl (fun w h Y => PySem.W.kIn_of Y) ?F
  case F =>
    intro w mg fa h KX G hmg
    refine' K11.all_mk KX G hmg ?a0 ?l0 ?c0 ?k0 ?a1 ?l1 ?c1 ?k1 ?a2 ?l2 ?c2 ?k2 ?a3 ?l3 ?c3 ?k3 ?a4 ?l4 ?c4 ?k4 ?a5 ?l5 ?c5 ?k5 ?a6 ?l6 ?c6 ?k6 ?a7 ?l7 ?c7 ?k7 ?a8 ?l8 ?c8 ?k8 ?a9 ?l9 ?c9 ?k9 ?z0 ?z1 ?z2 ?z3 ?z4 ?z5 ?z6 ?z7 ?z8 ?z9 ?z10 ?z11 ?z12 ?z13 (fun T base => K11.ok_law T base)
    (case a0 => k_is)
    (case l0 => k_is)
    (case c0 => k_is)
    (case k0 => k_is)
    (case a1 => k_is)
    (case l1 => k_is)
    (case c1 => k_is)
    (case k1 => k_is)
    (case a2 => k_is)
    (case l2 => k_is)
    (case c2 => k_is)
    (case k2 => k_is)
    (case a3 => k_is)
    (case l3 => k_is)
    (case c3 => k_is)
    (case k3 => k_is)
    (case a4 => k_is)
    (case l4 => k_is)
    (case c4 => k_is)
    (case k4 => k_is)
    (case a5 => k_is)
    (case l5 => k_is)
    (case c5 => k_is)
    (case k5 => k_is)
    (case a6 => k_is)
    (case l6 => k_is)
    (case c6 => k_is)
    (case k6 => k_is)
    (case a7 => k_is)
    (case l7 => k_is)
    (case c7 => k_is)
    (case k7 => k_is)
    (case a8 => k_is)
    (case l8 => k_is)
    (case c8 => k_is)
    (case k8 => k_is)
    (case a9 => k_is)
    (case l9 => k_is)
    (case c9 => k_is)
    (case k9 => k_is)
    (case z0 => k_is)
    (case z1 => k_is)
    (case z2 => k_is)
    (case z3 => k_is)
    (case z4 => k_is)
    (case z5 => k_is)
    (case z6 => k_is)
    (case z7 => k_is)
    (case z8 => k_is)
    (case z9 => k_is)
    (case z10 => k_is)
    (case z11 => k_is)
    (case z12 => k_is)
    (case z13 => k_is)
#print axioms PySem.Challenge.cw_whistleboard_k11_paired_holds
