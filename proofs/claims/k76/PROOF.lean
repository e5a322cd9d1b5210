import PyProof.Rows.All
import HandS.ForMost
import HandS.Exc
import HandS.TryOnly
import HandS.ExcOwn
import HandS.WordsExc
import HandS.Wide
import HandS.Deep
import KE.DataEq
import KE.KeyNested
import KE.KDictWalk
import HandS.HeadHook1
import HandS.TupAny
import HandS.TupMul
import HandS.IsInst
import HandS.Conv
import HandS.RevRange
import HandS.Zip
import HandS.EndBits
import HandS.Head0
import HandS.Head1
import HandS.Head2
import HandS.HeadEnd
import HandS.HeadHook2
import HandS.ExcIs
import HandS.Style
import KE.SortData
import HandS.Rev
import HandS.SortKw
import KE.DataMinMax
import HandS.Small
import HandS.Text
import KE.DataCmp
import PyProof.DictMoreH
import KE.KDictDisplayH
import HandS.TupLen
import KE.GoesZip
import KE.GoesMore
import KE.KDictSum
import HandS.ExcValue
import HandS.Iter
import PyProof.EnumMake
import PyProof.SumWalkG
import KE.DataFind
import KE.KDictCopyH
import HandS.TupSets
import HandS.HotCalls
import PyProof.MaxThree
import HandS.More
import HandS.SetKeys
import KE.SortKeyed
import PyProof.CompUse
import HandS.ReplaceLit
import HandS.Codes
import PySem.Challenge.RW_floorcurves_k76_spoilt_papers
set_option Elab.async false
set_option linter.all false
set_option maxRecDepth 100000
set_option maxHeartbeats 0
namespace MM
open PySem L2

abbrev U := PyData
inductive O where
  | sh (u : U)
  | ol (xs : List O)
  | ot (xs : List O)
  | od (kvs : List (Int × Int))
  | nd (kvs : List (U × U))
  | nf (kvs : List (U × U))
  | sc (us : List U)
  | ins (k : Nat) (os : List O)
  | fi (k : Nat) (us : List U)
  | dl (ks : List Int) (os : List O)
  | df (kvs : List (Int × Int))
abbrev Ev := List (Option O)
inductive R (α : Type) where
  | ok (a : α) (ρ : Ev)
  | exc (c : Str) (ρ : Ev)
  | bad
abbrev ME := Ev → R O
inductive Fl where
  | nx (ρ : Ev)
  | rt (o : O) (ρ : Ev)
  | bk (ρ : Ev)
  | ct (ρ : Ev)
  | exc (c : Str) (ρ : Ev)
  | bad
abbrev MS := Ev → Fl

mutual
/-- data as the heap bears them: lists are tracked (or locked), tuples may be written -/
inductive Dq (K : PySem.W.Frag) (H : Hp) : V → PyData → Prop
  | non : Dq K H .non .none
  | bl (b : Bool) : Dq K H (.bl b) (.bool b)
  | int (i : Int) : Dq K H (.int i) (.int i)
  | str (x : Str) : Dq K H (.str x) (.str x)
  | lst {a : Addr} {xs : List V} {ds : List PyData} : H a = some (.lst xs) → DqAll K H xs ds → Dq K H (.ref a) (.list ds)
  | tup {a : Addr} {xs : List V} {ds : List PyData} : SqT K H a xs → DqAll K H xs ds → Dq K H (.ref a) (.tuple ds)
inductive DqAll (K : PySem.W.Frag) (H : Hp) : List V → List PyData → Prop
  | nil : DqAll K H [] []
  | cons {v : V} {vs : List V} {d : PyData} {ds : List PyData} : Dq K H v d → DqAll K H vs ds → DqAll K H (v :: vs) (d :: ds)
end
theorem Rd.mono {F F' : Hp} (h : Same F F') {a : Addr} {u : HO} (r : Rd F a u) : Rd F' a u := by
  rcases r with r | ⟨o, r⟩
  · exact .inl (h _ _ r)
  · exact .inr ⟨o, h _ _ r⟩
theorem SqT.mono {K : PySem.W.Frag} {F F' : Hp} (h : Same F F') {a : Addr} {xs : List V} (r : SqT K F a xs) : SqT K F' a xs := by
  rcases r with r | r
  · exact .inl (Rd.mono h r)
  · exact .inr r
mutual
theorem Dq.mono {K : PySem.W.Frag} {F F' : Hp} (h : Same F F') : ∀ (d : PyData) (v : V), Dq K F v d → Dq K F' v d
  | .none, _, x => by cases x; exact .non
  | .bool b, _, x => by cases x; exact .bl b
  | .int i, _, x => by cases x; exact .int i
  | .str s, _, x => by cases x; exact .str s
  | .list ds, _, x => by
    cases x with
    | lst hs ha => exact .lst (h _ _ hs) (Dq.monoAll h ds _ ha)
  | .tuple ds, _, x => by
    cases x with
    | tup hs ha => exact .tup (SqT.mono h hs) (Dq.monoAll h ds _ ha)
  | .dict _, _, x => by cases x
theorem Dq.monoAll {K : PySem.W.Frag} {F F' : Hp} (h : Same F F') : ∀ (ds : List PyData) (vs : List V), DqAll K F vs ds → DqAll K F' vs ds
  | [], _, x => by cases x; exact .nil
  | d :: ds, _, x => by
    cases x with
    | cons h1 h2 => exact .cons (Dq.mono h d _ h1) (Dq.monoAll h ds _ h2)
end
mutual
theorem Dq.dp {K : PySem.W.Frag} {F : Hp} : ∀ (d : PyData) (v : V), Dq K F v d → Dp K F v d
  | .none, _, x => by cases x; exact .non
  | .bool b, _, x => by cases x; exact .bl b
  | .int i, _, x => by cases x; exact .int i
  | .str s, _, x => by cases x; exact .str s
  | .list ds, _, x => by
    cases x with
    | lst hs ha => exact .lst (.inl (.inl hs)) (Dq.dpAll ds _ ha)
  | .tuple ds, _, x => by
    cases x with
    | tup hs ha => exact .tup hs (Dq.dpAll ds _ ha)
  | .dict _, _, x => by cases x
theorem Dq.dpAll {K : PySem.W.Frag} {F : Hp} : ∀ (ds : List PyData) (vs : List V), DqAll K F vs ds → DpAll K F vs ds
  | [], _, x => by cases x; exact .nil
  | d :: ds, _, x => by
    cases x with
    | cons h1 h2 => exact .cons (Dq.dp d _ h1) (Dq.dpAll ds _ h2)
end
mutual
theorem Dq.plain {K : PySem.W.Frag} {F : Hp} : ∀ (d : PyData) (v : V), Dq K F v d → d.plain = true
  | .none, _, x => rfl
  | .bool b, _, x => rfl
  | .int i, _, x => rfl
  | .str s, _, x => rfl
  | .list ds, _, x => by
    cases x with
    | lst hs ha => rw [PyData.plain]; exact Dq.plainAll ds _ ha
  | .tuple ds, _, x => by
    cases x with
    | tup hs ha => rw [PyData.plain]; exact Dq.plainAll ds _ ha
  | .dict _, _, x => by cases x
theorem Dq.plainAll {K : PySem.W.Frag} {F : Hp} : ∀ (ds : List PyData) (vs : List V), DqAll K F vs ds → PyData.plainAll ds = true
  | [], _, x => rfl
  | d :: ds, _, x => by
    cases x with
    | cons h1 h2 => rw [PyData.plainAll, Dq.plain d _ h1, Dq.plainAll ds _ h2]; rfl
end
theorem DqAll.len {K : PySem.W.Frag} {F : Hp} : ∀ {vs : List V} {ds : List PyData}, DqAll K F vs ds → vs.length = ds.length
  | _, _, .nil => rfl
  | _, _, .cons _ t => by simp [DqAll.len t]
theorem DqAll.get {K : PySem.W.Frag} {F : Hp} : ∀ {vs : List V} {ds : List PyData} {i : Nat} {d : PyData}, DqAll K F vs ds → ds[i]? = some d → ∃ v, vs[i]? = some v ∧ Dq K F v d
  | _, _, _, _, .nil, e => by simp at e
  | _, _, 0, _, .cons h t, e => by simp at e; subst e; exact ⟨_, rfl, h⟩
  | _, _, i + 1, d, .cons h t, e => by
    obtain ⟨v, h1, h2⟩ := DqAll.get (i := i) (d := d) t (by simpa using e)
    exact ⟨v, by simpa using h1, h2⟩
theorem DqAll.append {K : PySem.W.Frag} {F : Hp} : ∀ {vs ws : List V} {ds es : List PyData}, DqAll K F vs ds → DqAll K F ws es → DqAll K F (vs ++ ws) (ds ++ es)
  | _, _, _, _, .nil, s => s
  | _, _, _, _, .cons h t, s => .cons h (DqAll.append t s)
theorem DqAll.take {K : PySem.W.Frag} {F : Hp} : ∀ {vs : List V} {ds : List PyData} (n : Nat), DqAll K F vs ds → DqAll K F (vs.take n) (ds.take n)
  | _, _, 0, _ => .nil
  | _, _, _ + 1, .nil => .nil
  | _, _, n + 1, .cons h t => .cons h (DqAll.take n t)
theorem DqAll.drop {K : PySem.W.Frag} {F : Hp} : ∀ {vs : List V} {ds : List PyData} (n : Nat), DqAll K F vs ds → DqAll K F (vs.drop n) (ds.drop n)
  | _, _, 0, r => r
  | _, _, _ + 1, .nil => .nil
  | _, _, n + 1, .cons _ t => DqAll.drop n t

def hdI (kvs : List (Int × Int)) : List (Key × V) := kvs.map fun q => (.inl q.1, .int q.2)
mutual
def hN : NestedKey → Int
  | .none => reduceHash 0xFCA86420
  | .num i => hashInt i
  | .text _ => 0
  | .tup ks => reduceHash (Builtin.Tuple.tupleHashOf (hNs ks))
def hNs : List NestedKey → List Int
  | [] => []
  | k :: ks => hN k :: hNs ks
end
mutual
def nTx : NestedKey → Bool
  | .text _ => false
  | .tup ks => nTxs ks
  | _ => true
def nTxs : List NestedKey → Bool
  | [] => true
  | k :: ks => nTx k && nTxs ks
end
mutual
theorem hN_e {w : World} : ∀ k : NestedKey, nTx k = true → k.hash w = hN k
  | .none, _ => rfl
  | .num _, _ => rfl
  | .text _, h => by cases h
  | .tup ks, h => by
    show reduceHash _ = reduceHash _
    rw [hNs_e ks h]
theorem hNs_e {w : World} : ∀ ks : List NestedKey, nTxs ks = true → NestedKey.hashes w ks = hNs ks
  | [], _ => rfl
  | k :: ks, h => by
    obtain ⟨h1, h2⟩ := Bool.and_eq_true_iff.mp (show (nTx k && nTxs ks) = true from h)
    show NestedKey.hash w k :: _ = _
    rw [hN_e k h1, hNs_e ks h2]
    rfl
end
abbrev NE := NestedKey × Addr × V
def NDp (a : Addr) (kvs : List NE) (h : Heap) : Prop := kvs.length ≤ sizeLine ∧ (a == sysModules) = false ∧ (kvs.map (·.1)).Nodup ∧
  ∃ xs : List (NestedKey × Addr × Value), Paired (fun (p : NE) (q : NestedKey × Addr × Value) => p.1 = q.1 ∧ p.2.1 = q.2.1 ∧ RelV p.2.2 q.2.2) kvs xs ∧
    ∃ o es ep, h.get? a = some o ∧ o.ExactDict ∧ o.data = .dict es ep ∧ es.toList = xs.map fun x => (⟨hN x.1, .ref x.2.1, x.2.2⟩ : DictEntry)
def NDo (a : Addr) (kvs : List NE) : HO := .ext (NDp a kvs)
mutual
def nkU : U → NestedKey
  | .int i => .num i
  | .tuple us => .tup (nkUs us)
  | _ => .none
def nkUs : List U → List NestedKey
  | [] => []
  | u :: us => nkU u :: nkUs us
end
mutual
def okU : U → Bool
  | .int _ => true
  | .tuple us => okUs us
  | _ => false
def okUs : List U → Bool
  | [] => true
  | u :: us => okU u && okUs us
end
def tupB : U → Bool
  | .tuple _ => true
  | _ => false
def keyB (u : U) : Bool := tupB u && (okU u && decide ((nkU u).depth ≤ 8))
def ndOk (kvs : List (U × U)) : Bool := kvs.all fun q => keyB q.1
inductive NdR (K : PySem.W.Frag) (F : Hp) : List NE → List (U × U) → Prop
  | nil : NdR K F [] []
  | cons {n : NestedKey} {b : Addr} {v : V} {L : List NE} {k u : U} {kvs : List (U × U)} : n = nkU k → Dq K F (.ref b) k → Dq K F v u → NdR K F L kvs → NdR K F ((n, b, v) :: L) ((k, u) :: kvs)
theorem NdR.mono {K : PySem.W.Frag} {F F' : Hp} (f : Same F F') {L : List NE} {kvs : List (U × U)} (h : NdR K F L kvs) : NdR K F' L kvs := by
  induction h with
  | nil => exact .nil
  | cons e d1 d2 _ ih => exact .cons e (Dq.mono f _ _ d1) (Dq.mono f _ _ d2) ih
def cN : Nat → Str
  | 0 => "Tables"
  | 1 => "Growing"
  | _ => "Desk"
def fN : Nat → List Str
  | 0 => ["rows", "heard"]
  | 1 => ["lifts", "ends", "held", "free", "ways"]
  | _ => ["answered"]
mutual
inductive RpO (K : PySem.W.Frag) (F H : Hp) : V → O → (Addr → Prop) → Prop
  | sh {v : V} {u : U} {S : Addr → Prop} : Dq K F v u → RpO K F H v (.sh u) S
  | ol {p : Addr} {vs : List V} {os : List O} {S S1 : Addr → Prop} : H p = some (.lst vs) → S p → RpOs K F H vs os S1 → (∀ a, S1 a → S a) → ¬ S1 p → RpO K F H (.ref p) (.ol os) S
  | ot {p : Addr} {vs : List V} {os : List O} {S S1 : Addr → Prop} : H p = some (.tup vs) → S p → RpOs K F H vs os S1 → (∀ a, S1 a → S a) → ¬ S1 p → RpO K F H (.ref p) (.ot os) S
  | sc {p : Addr} {vs : List V} {us : List U} {S : Addr → Prop} : SqL K F p vs → DqAll K F vs us → RpO K F H (.ref p) (.sc us) S
  | od {p : Addr} {kvs : List (Int × Int)} {S : Addr → Prop} : H p = some (.dK (hdI kvs)) → S p → RpO K F H (.ref p) (.od kvs) S
  | nd {p : Addr} {kvs : List (U × U)} {L : List NE} {S : Addr → Prop} : H p = some (NDo p L) → NdR K F L kvs → ndOk kvs = true → S p → RpO K F H (.ref p) (.nd kvs) S
  | nf {p : Addr} {kvs : List (U × U)} {L : List NE} {S : Addr → Prop} : (∃ o, F p = some (.frz o (NDo p L))) → NdR K F L kvs → ndOk kvs = true → True → RpO K F H (.ref p) (.nf kvs) S
  | ins {p dx : Addr} {k : Nat} {vs : List V} {os : List O} {S S1 : Addr → Prop} : H p = some (.ins (He.ga K (cN k)) dx ((fN k).zip vs)) → S p → RpOs K F H vs os S1 → (∀ a, S1 a → S a) → ¬ S1 p → os.length ≤ (fN k).length → RpO K F H (.ref p) (.ins k os) S
  | fi {p dx : Addr} {k : Nat} {vs : List V} {us : List U} {S : Addr → Prop} : F p = some (.ins (He.ga K (cN k)) dx ((fN k).zip vs)) → DqAll K F vs us → us.length ≤ (fN k).length → RpO K F H (.ref p) (.fi k us) S
  | dl {p : Addr} {ks : List Int} {vs : List V} {os : List O} {S S1 : Addr → Prop} : H p = some (.dK ((ks.map Sum.inl).zip vs)) → S p → RpOs K F H vs os S1 → (∀ a, S1 a → S a) → ¬ S1 p → ks.length = os.length → RpO K F H (.ref p) (.dl ks os) S
  | df {p : Addr} {kvs : List (Int × Int)} {S : Addr → Prop} : (∃ o, F p = some (.frz o (.dK (hdI kvs)))) → RpO K F H (.ref p) (.df kvs) S
inductive RpOs (K : PySem.W.Frag) (F H : Hp) : List V → List O → (Addr → Prop) → Prop
  | nil {S : Addr → Prop} : RpOs K F H [] [] S
  | cons {v : V} {vs : List V} {o : O} {os : List O} {S S1 S2 : Addr → Prop} : RpO K F H v o S1 → RpOs K F H vs os S2 → (∀ a, S1 a → S a) → (∀ a, S2 a → S a) → (∀ a, S1 a → S2 a → False) → RpOs K F H (v :: vs) (o :: os) S
end

section
variable {K : PySem.W.Frag} {F F' H H' : Hp}
mutual
theorem RpO.mono {v : V} {o : O} {S S' : Addr → Prop} : RpO K F H v o S → (∀ a, S a → S' a) → RpO K F H v o S'
  | .sh d, _ => .sh d
  | .ol h p r s n, m => .ol h (m _ p) r (fun a x => m a (s a x)) n
  | .ot h p r s n, m => .ot h (m _ p) r (fun a x => m a (s a x)) n
  | .sc h d, _ => .sc h d
  | .od h p, m => .od h (m _ p)
  | .nd h d k p, m => .nd h d k (m _ p)
  | .nf h d k t, _ => .nf h d k t
  | .ins h p r s n l, m => .ins h (m _ p) r (fun a x => m a (s a x)) n l
  | .fi h d l, _ => .fi h d l
  | .dl h p r s n l, m => .dl h (m _ p) r (fun a x => m a (s a x)) n l
  | .df h, _ => .df h
theorem RpOs.mono {vs : List V} {os : List O} {S S' : Addr → Prop} : RpOs K F H vs os S → (∀ a, S a → S' a) → RpOs K F H vs os S'
  | .nil, _ => .nil
  | .cons r rs s1 s2 d, m => .cons r rs (fun a x => m a (s1 a x)) (fun a x => m a (s2 a x)) d
end
mutual
theorem RpO.frame {v : V} {o : O} {S : Addr → Prop} (hF : Same F F') : RpO K F H v o S → (∀ a, S a → H' a = H a) → RpO K F' H' v o S
  | .sh d, _ => .sh (Dq.mono hF _ _ d)
  | .ol h p r s n, k => .ol (by rw [k _ p]; exact h) p (RpOs.frame hF r fun a x => k a (s a x)) s n
  | .ot h p r s n, k => .ot (by rw [k _ p]; exact h) p (RpOs.frame hF r fun a x => k a (s a x)) s n
  | .sc h d, _ => .sc (hF.seq h) (Dq.monoAll hF _ _ d)
  | .od h p, k => .od (by rw [k _ p]; exact h) p
  | .nd h d q p, k => .nd (by rw [k _ p]; exact h) (d.mono hF) q p
  | .nf ⟨o, h⟩ d q t, _ => .nf ⟨o, hF _ _ h⟩ (d.mono hF) q t
  | .ins h p r s n l, k => .ins (by rw [k _ p]; exact h) p (RpOs.frame hF r fun a x => k a (s a x)) s n l
  | .fi h d l, _ => .fi (hF _ _ h) (Dq.monoAll hF _ _ d) l
  | .dl h p r s n l, k => .dl (by rw [k _ p]; exact h) p (RpOs.frame hF r fun a x => k a (s a x)) s n l
  | .df ⟨o, h⟩, _ => .df ⟨o, hF _ _ h⟩
theorem RpOs.frame {vs : List V} {os : List O} {S : Addr → Prop} (hF : Same F F') : RpOs K F H vs os S → (∀ a, S a → H' a = H a) → RpOs K F' H' vs os S
  | .nil, _ => .nil
  | .cons r rs s1 s2 d, k => .cons (RpO.frame hF r fun a x => k a (s1 a x)) (RpOs.frame hF rs fun a x => k a (s2 a x)) s1 s2 d
end
end

mutual
def viewO : O → Option U
  | .sh u => some u
  | .ol os => match viewOs os with
    | some us => some (.list us)
    | none => none
  | .ot os => match viewOs os with
    | some us => some (.tuple us)
    | none => none
  | .od _ => none
  | .nd _ => none
  | .nf _ => none
  | .sc _ => none
  | .ins _ _ => none
  | .fi _ _ => none
  | .dl _ _ => none
  | .df _ => none
def viewOs : List O → Option (List U)
  | [] => some []
  | o :: os => match viewO o with
    | some u => match viewOs os with
      | some us => some (u :: us)
      | none => none
    | none => none
end
section
variable {K : PySem.W.Frag} {F F' H H' : Hp}
mutual
theorem RpO.data {v : V} {o : O} {S : Addr → Prop} {u : U} (hF : Same F F') : RpO K F H v o S → (∀ a, S a → F' a = H a) → viewO o = some u → Dq K F' v u
  | .sh d, _, e => by
    simp only [viewO, Option.some.injEq] at e
    subst e
    exact Dq.mono hF _ _ d
  | .ol (os := os) h p r s n, k, e => by
    simp only [viewO] at e
    cases q : viewOs os with
    | none => rw [q] at e; cases e
    | some us =>
      rw [q] at e
      cases e
      exact .lst (by rw [k _ p]; exact h) (RpOs.data hF r (fun a x => k a (s a x)) q)
  | .ot (os := os) h p r s n, k, e => by
    simp only [viewO] at e
    cases q : viewOs os with
    | none => rw [q] at e; cases e
    | some us =>
      rw [q] at e
      cases e
      exact .tup (.inl (.inl (by rw [k _ p]; exact h))) (RpOs.data hF r (fun a x => k a (s a x)) q)
  | .sc h d, _, e => by simp [viewO] at e
  | .od h p, _, e => by simp [viewO] at e
  | .nd h d q p, _, e => by simp [viewO] at e
  | .nf h d q p, _, e => by simp [viewO] at e
  | .ins _ _ _ _ _ _, _, e => by simp [viewO] at e
  | .fi _ _ _, _, e => by simp [viewO] at e
  | .dl _ _ _ _ _ _, _, e => by simp [viewO] at e
  | .df _, _, e => by simp [viewO] at e
theorem RpOs.data {vs : List V} {os : List O} {S : Addr → Prop} {us : List U} (hF : Same F F') : RpOs K F H vs os S → (∀ a, S a → F' a = H a) → viewOs os = some us → DqAll K F' vs us
  | .nil, _, e => by
    simp only [viewOs, Option.some.injEq] at e
    subst e
    exact .nil
  | .cons (o := o) (os := os) r rs s1 s2 d, k, e => by
    simp only [viewOs] at e
    cases q1 : viewO o with
    | none => rw [q1] at e; cases e
    | some u =>
      rw [q1] at e
      cases q2 : viewOs os with
      | none => rw [q2] at e; cases e
      | some us =>
        rw [q2] at e
        cases e
        exact .cons (RpO.data hF r (fun a x => k a (s1 a x)) q1) (RpOs.data hF rs (fun a x => k a (s2 a x)) q2)
end
end

inductive RpE (K : PySem.W.Frag) (F H : Hp) : St → Ev → (Addr → Prop) → Prop
  | nil {S : Addr → Prop} : RpE K F H [] [] S
  | non {x : Option V} {σ : St} {ρ : Ev} {S : Addr → Prop} : RpE K F H σ ρ S → RpE K F H (x :: σ) (none :: ρ) S
  | cons {v : V} {σ : St} {o : O} {ρ : Ev} {S S1 S2 : Addr → Prop} : RpO K F H v o S1 → RpE K F H σ ρ S2 → (∀ a, S1 a → S a) → (∀ a, S2 a → S a) → (∀ a, S1 a → S2 a → False) → RpE K F H (some v :: σ) (some o :: ρ) S
section
variable {K : PySem.W.Frag} {F F' H H' : Hp}
theorem RpE.len {σ : St} {ρ : Ev} {E : Addr → Prop} (h : RpE K F H σ ρ E) : σ.length = ρ.length := by
  induction h with
  | nil => rfl
  | non _ ih => simp [ih]
  | cons _ _ _ _ _ ih => simp [ih]
theorem RpE.mono {σ : St} {ρ : Ev} {E E' : Addr → Prop} (h : RpE K F H σ ρ E) (m : ∀ a, E a → E' a) : RpE K F H σ ρ E' := by
  induction h generalizing E' with
  | nil => exact .nil
  | non _ ih => exact .non (ih m)
  | cons r _ s1 s2 d ih => exact .cons r (ih fun a x => x) (fun a x => m a (s1 a x)) (fun a x => m a (s2 a x)) d
theorem RpE.frame {σ : St} {ρ : Ev} {E : Addr → Prop} (h : RpE K F H σ ρ E) (hF : Same F F') (k : ∀ a, E a → H' a = H a) : RpE K F' H' σ ρ E := by
  induction h with
  | nil => exact .nil
  | non _ ih => exact .non (ih k)
  | cons r _ s1 s2 d ih => exact .cons (r.frame hF fun a x => k a (s1 a x)) (ih fun a x => k a (s2 a x)) s1 s2 d
theorem RpE.take {σ : St} {ρ : Ev} {E : Addr → Prop} (h : RpE K F H σ ρ E) {i : Nat} {o : O} (e : ρ[i]? = some (some o)) :
    ∃ v S1 E2, σ[i]? = some (some v) ∧ RpO K F H v o S1 ∧ RpE K F H σ (ρ.set i none) E2 ∧ (∀ a, S1 a → E a) ∧ (∀ a, E2 a → E a) ∧ ∀ a, S1 a → E2 a → False := by
  induction h generalizing i with
  | nil => simp at e
  | non h ih =>
    cases i with
    | zero => simp at e
    | succ i =>
      obtain ⟨v, S1, E2, a1, a2, a3, a4, a5, a6⟩ := ih (i := i) (by simpa using e)
      exact ⟨v, S1, E2, by simpa using a1, a2, .non a3, a4, a5, a6⟩
  | cons r h s1 s2 d ih =>
    rename_i v0 σ0 o0 ρ0 S0 T1 T2
    cases i with
    | zero =>
      simp only [List.getElem?_cons_zero, Option.some.injEq] at e
      subst e
      exact ⟨v0, T1, T2, by simp, r, .non h, s1, s2, d⟩
    | succ i =>
      obtain ⟨v, S1, E2, a1, a2, a3, a4, a5, a6⟩ := ih (i := i) (by simpa using e)
      refine ⟨v, S1, fun a => T1 a ∨ E2 a, by simpa using a1, a2, .cons r a3 (fun a x => .inl x) (fun a x => .inr x) (fun a x y => d a x (a5 a y)), fun a x => s2 a (a4 a x), fun a x => x.elim (s1 a) fun y => s2 a (a5 a y), fun a x y => ?_⟩
      rcases y with y | y
      · exact d a y (a4 a x)
      · exact a6 a x y
theorem RpE.get {σ : St} {ρ : Ev} {E : Addr → Prop} (h : RpE K F H σ ρ E) {i : Nat} {o : O} (e : ρ[i]? = some (some o)) :
    ∃ v S1, σ[i]? = some (some v) ∧ RpO K F H v o S1 ∧ ∀ a, S1 a → E a := by
  obtain ⟨v, S1, _, a1, a2, _, a4, _⟩ := h.take e
  exact ⟨v, S1, a1, a2, a4⟩
theorem RpE.put {σ : St} {ρ : Ev} {E S1 : Addr → Prop} {v : V} {o : O} (h : RpE K F H σ ρ E) (r : RpO K F H v o S1) (d : ∀ a, E a → S1 a → False) : ∀ i, RpE K F H (σ.set i (some v)) (ρ.set i (some o)) (fun a => E a ∨ S1 a) := by
  induction h with
  | nil => intro i; exact .nil
  | non h ih =>
    intro i
    cases i with
    | zero => exact .cons r h (fun a x => .inr x) (fun a x => .inl x) (fun a x y => d a y x)
    | succ i => exact .non (ih d i)
  | cons r0 h s1 s2 d0 ih =>
    intro i
    cases i with
    | zero => exact .cons r h (fun a x => .inr x) (fun a x => .inl (s2 a x)) (fun a x y => d a (s2 a y) x)
    | succ i =>
      refine .cons r0 (ih (fun a x y => d a (s2 a x) y) i) (fun a x => .inl (s1 a x)) (fun a x => ?_) (fun a x y => ?_)
      · rcases x with x | x
        · exact .inl (s2 a x)
        · exact .inr x
      · rcases y with y | y
        · exact d0 a x y
        · exact d a (s1 a x) y
theorem RpE.back {σ : St} {ρ : Ev} {E S1 : Addr → Prop} {v : V} {o : O} (h : RpE K F H σ ρ E) (r : RpO K F H v o S1) (d : ∀ a, E a → S1 a → False) {i : Nat} (e : σ[i]? = some (some v)) : RpE K F H σ (ρ.set i (some o)) (fun a => E a ∨ S1 a) := by
  have q := h.put r d i
  have e2 : σ.set i (some v) = σ := by
    apply List.ext_getElem?
    intro j
    by_cases hj : i = j
    · subst hj
      have hl : i < σ.length := by
        rcases Nat.lt_or_ge i σ.length with z | z
        · exact z
        · rw [List.getElem?_eq_none z] at e; cases e
      rw [List.getElem?_set_self hl, e]
    · rw [List.getElem?_set_ne hj]
  rw [e2] at q
  exact q
theorem RpE.drop {σ : St} {ρ : Ev} {E : Addr → Prop} (h : RpE K F H σ ρ E) : ∀ (i : Nat) (x : Option V), RpE K F H (σ.set i x) (ρ.set i none) E := by
  induction h with
  | nil => intro i x; exact .nil
  | non h ih =>
    intro i x
    cases i with
    | zero => exact .non h
    | succ i => exact .non (ih i x)
  | cons r0 h s1 s2 d0 ih =>
    intro i x
    cases i with
    | zero => exact .non (h.mono s2)
    | succ i => exact .cons r0 (ih i x) s1 s2 d0
theorem RpE.drop' {σ : St} {ρ : Ev} {E : Addr → Prop} (h : RpE K F H σ ρ E) (i : Nat) : RpE K F H σ (ρ.set i none) E := by
  cases e : σ[i]? with
  | none =>
    have z : σ.length ≤ i := List.getElem?_eq_none_iff.mp e
    rw [List.set_eq_of_length_le (by rw [← h.len]; exact z)]
    exact h
  | some x =>
    have q := h.drop i x
    have e2 : σ.set i x = σ := by
      apply List.ext_getElem?
      intro j
      by_cases hj : i = j
      · subst hj
        have hl : i < σ.length := by
          rcases Nat.lt_or_ge i σ.length with z | z
          · exact z
          · rw [List.getElem?_eq_none z] at e; cases e
        rw [List.getElem?_set_self hl, e]
      · rw [List.getElem?_set_ne hj]
    rw [e2] at q
    exact q
end

structure Cc where
  H0 : Hp
  F0 : Hp
  S0 : Addr → Prop
  pin : Nat → Option V
structure MI (K : PySem.W.Frag) (c : Cc) (ρ : Ev) (σ : St) (F H : Hp) (E T : Addr → Prop) : Prop where
  ff : Same F H
  f0 : Same c.F0 F
  keep : ∀ a o, c.H0 a = some o → ¬ c.S0 a → H a = some o
  fnew : ∀ a, F a ≠ none → c.F0 a ≠ none ∨ c.H0 a = none ∨ c.S0 a
  env : RpE K F H σ ρ E
  own : ∀ a, E a ∨ T a → F a = none ∧ H a ≠ none ∧ (c.H0 a = none ∨ c.S0 a)
  dj : ∀ a, E a → T a → False
  pins : ∀ i v, c.pin i = some v → σ[i]? = some (some v)
abbrev Em : Addr → Prop := fun _ => False
section
variable {K : PySem.W.Frag} {c : Cc} {ρ ρ' : Ev} {σ σ' : St} {F F' H H' : Hp} {E E' T T' S : Addr → Prop} {v : V} {o : O} {u : U}
theorem MI.less (M : MI K c ρ σ F H E T) (h : ∀ a, T' a → T a) : MI K c ρ σ F H E T' :=
  ⟨M.ff, M.f0, M.keep, M.fnew, M.env, fun a x => M.own a (x.imp id (h a)), fun a x y => M.dj a x (h a y), M.pins⟩
theorem MI.take (M : MI K c ρ σ F H E T) {i : Nat} (e : ρ[i]? = some (some o)) :
    ∃ v S E', σ[i]? = some (some v) ∧ RpO K F H v o S ∧ MI K c (ρ.set i none) σ F H E' (fun a => T a ∨ S a) ∧ ∀ a, T a → S a → False := by
  obtain ⟨v, S1, E2, a1, a2, a3, a4, a5, a6⟩ := M.env.take e
  refine ⟨v, S1, E2, a1, a2, ⟨M.ff, M.f0, M.keep, M.fnew, a3, fun a x => M.own a ?_, fun a x y => ?_, M.pins⟩, fun a x y => M.dj a (a4 a y) x⟩
  · rcases x with x | x | x
    · exact .inl (a5 a x)
    · exact .inr x
    · exact .inl (a4 a x)
  · rcases y with y | y
    · exact M.dj a (a5 a x) y
    · exact a6 a y x
theorem MI.back (M : MI K c ρ σ F H E (fun a => T a ∨ S a)) (dj : ∀ a, T a → S a → False) (r : RpO K F H v o S) {i : Nat} (e : σ[i]? = some (some v)) : MI K c (ρ.set i (some o)) σ F H (fun a => E a ∨ S a) T :=
  ⟨M.ff, M.f0, M.keep, M.fnew, M.env.back r (fun a x y => M.dj a x (.inr y)) e, fun a x => M.own a (by
    rcases x with (x | x) | x
    · exact .inl x
    · exact .inr (.inr x)
    · exact .inr (.inl x)), fun a x y => by
    rcases x with x | x
    · exact M.dj a x (.inl y)
    · exact dj a y x, M.pins⟩
theorem MI.store (M : MI K c ρ σ F H E (fun a => T a ∨ S a)) (dj : ∀ a, T a → S a → False) (r : RpO K F H v o S) (i : Nat) (hp : c.pin i = none) : MI K c (ρ.set i (some o)) (σ.set i (some v)) F H (fun a => E a ∨ S a) T :=
  ⟨M.ff, M.f0, M.keep, M.fnew, M.env.put r (fun a x y => M.dj a x (.inr y)) i, fun a x => M.own a (by
    rcases x with (x | x) | x
    · exact .inl x
    · exact .inr (.inr x)
    · exact .inr (.inl x)), fun a x y => by
    rcases x with x | x
    · exact M.dj a x (.inl y)
    · exact dj a y x, fun j w hj => by
    by_cases h : i = j
    · subst h; rw [hp] at hj; cases hj
    · rw [List.getElem?_set_ne h]; exact M.pins j w hj⟩
theorem MI.forget (M : MI K c ρ σ F H E T) (i : Nat) (x : Option V) (hp : c.pin i = none) : MI K c (ρ.set i none) (σ.set i x) F H E T :=
  ⟨M.ff, M.f0, M.keep, M.fnew, M.env.drop i x, M.own, M.dj, fun j w hj => by
    by_cases h : i = j
    · subst h; rw [hp] at hj; cases hj
    · rw [List.getElem?_set_ne h]; exact M.pins j w hj⟩
theorem MI.freeze (M : MI K c ρ σ F H E (fun a => T a ∨ S a)) (dj : ∀ a, T a → S a → False) (r : RpO K F H v o S) (e : viewO o = some u) :
    ∃ F', Same F F' ∧ MI K c ρ σ F' H E T ∧ Dq K F' v u := by
  classical
  refine ⟨fun a => if S a then H a else F a, fun a x h => ?_, ⟨fun a x h => ?_, fun a x h => ?_, M.keep, fun a h => ?_, ?_, fun a x => ?_, fun a x y => M.dj a x (.inl y), M.pins⟩, ?_⟩
  · by_cases hs : S a
    · have := (M.own a (.inr (.inr hs))).1
      rw [h] at this; cases this
    · show (if S a then H a else F a) = some x
      rw [if_neg hs]; exact h
  · by_cases hs : S a
    · have h : (if S a then H a else F a) = some x := h
      rw [if_pos hs] at h; exact h
    · have h : (if S a then H a else F a) = some x := h
      rw [if_neg hs] at h; exact M.ff a x h
  · by_cases hs : S a
    · have := (M.own a (.inr (.inr hs))).1
      rw [M.f0 a x h] at this; cases this
    · show (if S a then H a else F a) = some x
      rw [if_neg hs]; exact M.f0 a x h
  · by_cases hs : S a
    · exact .inr (M.own a (.inr (.inr hs))).2.2
    · have h : (if S a then H a else F a) ≠ none := h
      rw [if_neg hs] at h; exact M.fnew a h
  · refine M.env.frame (fun a x h => ?_) (fun _ _ => rfl)
    by_cases hs : S a
    · have := (M.own a (.inr (.inr hs))).1
      rw [h] at this; cases this
    · show (if S a then H a else F a) = some x
      rw [if_neg hs]; exact h
  · have hn : ¬ S a := fun hs => by
      rcases x with x | x
      · exact M.dj a x (.inr hs)
      · exact dj a x hs
    have q := M.own a (x.imp id .inl)
    exact ⟨by show (if S a then H a else F a) = none; rw [if_neg hn]; exact q.1, q.2⟩
  · refine r.data (fun a x h => ?_) (fun a hs => ?_) e
    · by_cases hs : S a
      · have := (M.own a (.inr (.inr hs))).1
        rw [h] at this; cases this
      · show (if S a then H a else F a) = some x
        rw [if_neg hs]; exact h
    · show (if S a then H a else F a) = H a
      rw [if_pos hs]
theorem MI.new (M : MI K c ρ σ F H E T) {p : Addr} {ob : HO} (hp : H p = none) : MI K c ρ σ F (upd H p ob) E (fun a => T a ∨ a = p) := by
  have hne : ∀ a, E a ∨ T a → a ≠ p := fun a x z => by subst z; exact (M.own _ x).2.1 hp
  have hfp : F p = none := M.ff.free hp
  have h0p : c.H0 p = none ∨ c.S0 p := by
    cases q : c.H0 p with
    | none => exact .inl rfl
    | some x =>
      by_cases hs : c.S0 p
      · exact .inr hs
      · rw [M.keep p x q hs] at hp; cases hp
  refine ⟨fun a x h => ?_, M.f0, fun a x h hs => ?_, M.fnew, M.env.frame (Same.refl F) (fun a x => upd_ne (hne a (.inl x))), fun a x => ?_, fun a x y => ?_, M.pins⟩
  · rw [upd_ne (ne_of_none (M.ff a x h) hp)]; exact M.ff a x h
  · rw [upd_ne (ne_of_none (M.keep a x h hs) hp)]; exact M.keep a x h hs
  · rcases x with x | x | x
    · have q := M.own a (.inl x)
      exact ⟨q.1, by rw [upd_ne (hne a (.inl x))]; exact q.2.1, q.2.2⟩
    · have q := M.own a (.inr x)
      exact ⟨q.1, by rw [upd_ne (hne a (.inr x))]; exact q.2.1, q.2.2⟩
    · subst x
      exact ⟨hfp, by rw [upd_same]; simp, h0p⟩
  · rcases y with y | y
    · exact M.dj a x y
    · exact hne a (.inl x) y
theorem MI.write (M : MI K c ρ σ F H E (fun a => T a ∨ S a)) (dj : ∀ a, T a → S a → False) {p : Addr} {ob : HO} (hp : S p) : MI K c ρ σ F (upd H p ob) E (fun a => T a ∨ S a) := by
  have hq := M.own p (.inr (.inr hp))
  refine ⟨fun a x h => ?_, M.f0, fun a x h hs => ?_, M.fnew, M.env.frame (Same.refl F) (fun a x => upd_ne fun z => by subst z; exact M.dj _ x (.inr hp)), fun a x => ?_, M.dj, M.pins⟩
  · have : a ≠ p := fun z => by subst z; rw [hq.1] at h; cases h
    rw [upd_ne this]; exact M.ff a x h
  · have : a ≠ p := fun z => by
      subst z
      rcases hq.2.2 with z | z
      · rw [z] at h; cases h
      · exact hs z
    rw [upd_ne this]; exact M.keep a x h hs
  · have q := M.own a x
    refine ⟨q.1, ?_, q.2.2⟩
    by_cases z : a = p
    · subst z; rw [upd_same]; simp
    · rw [upd_ne z]; exact q.2.1
end
end MM
namespace MM
open PySem L2

inductive Ag where
  | var (i : Nat)
  | ex (m : ME)
inductive Dn where
  | v (i : Nat)
  | o (x : O)
def evA : Ag → Ev → R Dn
  | .var i, ρ => match ρ[i]? with
    | some (some _) => .ok (.v i) ρ
    | _ => .bad
  | .ex m, ρ => match m ρ with
    | .ok o ρ' => .ok (.o o) ρ'
    | .exc c ρ' => .exc c ρ'
    | .bad => .bad
def oOf (ρ : Ev) : Dn → Option O
  | .v i => match ρ[i]? with
    | some x => x
    | none => none
  | .o x => some x
def evAs : List Ag → Ev → R (List Dn)
  | [], ρ => .ok [] ρ
  | a :: as, ρ => match evA a ρ with
    | .ok d ρ1 => match evAs as ρ1 with
      | .ok ds ρ2 => .ok (d :: ds) ρ2
      | .exc c ρ2 => .exc c ρ2
      | .bad => .bad
    | .exc c ρ1 => .exc c ρ1
    | .bad => .bad

section
variable (K : PySem.W.Frag) (c : Cc) (g : Str → Option Value) (W : WX)
def Got {α β : Type} (rel : Hp → Hp → β → α → (Addr → Prop) → Prop) (σ : St) (F H : Hp) (T : Addr → Prop) (Q : β → Hp → Prop) : R α → Prop
  | .ok x ρ' => ∀ b F' H' E' S', Same F F' → (∀ a, T a → H' a = H a) → MI K c ρ' σ F' H' E' (fun a => T a ∨ S' a) → (∀ a, T a → S' a → False) → rel F' H' b x S' → Q b H'
  | .exc cl ρ' => ∀ C F' H' E', g cl = some (.ref C) → Same F F' → MI K c ρ' σ F' H' E' Em → W (.ref C) none σ H'
  | .bad => False
abbrev relO : Hp → Hp → V → O → (Addr → Prop) → Prop := fun F H v o S => RpO K F H v o S
abbrev relB : Hp → Hp → Bool → Bool → (Addr → Prop) → Prop := fun _ _ b x _ => b = x
def tM (m : ME) : TE := fun σ H Q => ∃ ρ F E T, MI K c ρ σ F H E T ∧ Got K c g W (relO K) σ F H T Q (m ρ)
def tMT (m : Ev → R Bool) : TT := fun σ H Q => ∃ ρ F E T, MI K c ρ σ F H E T ∧ Got K c g W relB σ F H T Q (m ρ)
def tAg : Ag → TE
  | .var i => tVar i
  | .ex m => tM K c g W m
def DnR (σ : St) (F H : Hp) (v : V) (d : Dn) (S : Addr → Prop) : Prop := match d with
  | .v i => σ[i]? = some (some v)
  | .o x => RpO K F H v x S
inductive DnRs (σ : St) (F H : Hp) : List V → List Dn → (Addr → Prop) → Prop
  | nil {S : Addr → Prop} : DnRs σ F H [] [] S
  | cons {v : V} {vs : List V} {d : Dn} {ds : List Dn} {S S1 S2 : Addr → Prop} : DnR K σ F H v d S1 → DnRs σ F H vs ds S2 → (∀ a, S1 a → S a) → (∀ a, S2 a → S a) → (∀ a, S1 a → S2 a → False) → DnRs σ F H (v :: vs) (d :: ds) S
def tMA (as : List Ag) : TA := fun σ H Q => ∃ ρ F E T, MI K c ρ σ F H E T ∧ Got K c g W (DnRs K σ) σ F H T Q (evAs as ρ)
end

section
variable {K : PySem.W.Frag} {c : Cc} {g : Str → Option Value} {W : WX} {ρ ρ' : Ev} {σ σ' : St} {F F' H H' : Hp} {E E' T T' S S1 S2 : Addr → Prop} {v : V} {o : O} {u : U} {Q : V → Hp → Prop}
theorem orE {A : Addr → Prop} : ∀ a, (A a ∨ Em a) → A a := fun a x => x.elim id False.elim
theorem MI.em (M : MI K c ρ σ F H E T) : MI K c ρ σ F H E (fun a => T a ∨ Em a) := M.less orE
theorem DnR.frame {d : Dn} (r : DnR K σ F H v d S) (hF : Same F F') (k : ∀ a, S a → H' a = H a) : DnR K σ F' H' v d S := by
  cases d with
  | v i => exact r
  | o x => exact RpO.frame hF r k
theorem DnR.rp {d : Dn} (M : MI K c ρ σ F H E T) (r : DnR K σ F H v d S) (hs : ∀ a, S a → T a) (e : oOf ρ d = some o) : ∃ S', RpO K F H v o S' ∧ ∀ a, S' a → E a ∨ T a := by
  cases d with
  | v i =>
    have e' : ρ[i]? = some (some o) := by
      simp only [oOf] at e
      cases q : ρ[i]? with
      | none => rw [q] at e; cases e
      | some x =>
        simp only [q] at e
        rw [e]
    obtain ⟨v', S', h1, h2, h3⟩ := M.env.get e'
    have r : σ[i]? = some (some v) := r
    rw [r] at h1
    cases h1
    exact ⟨S', h2, fun a x => .inl (h3 a x)⟩
  | o x =>
    cases e
    exact ⟨S, r, fun a x => .inr (hs a x)⟩
theorem run_ag {a : Ag} (M : MI K c ρ σ F H E T) (h : Got K c g W (DnR K σ) σ F H T Q (evA a ρ)) : tAg K c g W a σ H Q := by
  cases a with
  | var i =>
    simp only [evA] at h
    cases q : ρ[i]? with
    | none => rw [q] at h; exact h.elim
    | some x =>
      cases x with
      | none => rw [q] at h; exact h.elim
      | some o =>
        rw [q] at h
        obtain ⟨v, S', h1, h2, h3⟩ := M.env.get q
        exact ⟨v, h1, h v F H E Em (Same.refl F) (fun _ _ => rfl) M.em (fun _ _ x => x) h1⟩
  | ex m =>
    simp only [evA] at h
    refine ⟨ρ, F, E, T, M, ?_⟩
    cases q : m ρ with
    | ok o ρ' => rw [q] at h; exact h
    | exc cl ρ' => rw [q] at h; exact h
    | bad => rw [q] at h; exact h.elim
theorem Got.sc (h : Got K c g W (relO K) σ F H T Q (.ok (.sh u) ρ)) (M : MI K c ρ σ F H E T) (d : Dq K F v u) : Q v H :=
  h v F H E Em (Same.refl F) (fun _ _ => rfl) M.em (fun _ _ x => x) (.sh d)

def mBin (fo : O → O → Ev → R O) (a b : Ag) : ME := fun ρ => match evA a ρ with
  | .ok da ρ1 => match evA b ρ1 with
    | .ok db ρ2 => match oOf ρ2 da with
      | some oa => match oOf ρ2 db with
        | some ob => fo oa ob ρ2
        | none => .bad
      | none => .bad
    | .exc cl ρ2 => .exc cl ρ2
    | .bad => .bad
  | .exc cl ρ1 => .exc cl ρ1
  | .bad => .bad
def Serves (K : PySem.W.Frag) (c : Cc) (g : Str → Option Value) (W : WX) (r : R2) (fo : O → O → Ev → R O) : Prop :=
  ∀ (ρ : Ev) (σ : St) (F H : Hp) (E T Sa Sb : Addr → Prop) (x y : V) (oa ob : O) (Q : VK), MI K c ρ σ F H E T → RpO K F H x oa Sa → RpO K F H y ob Sb → (∀ a, Sa a → E a ∨ T a) → (∀ a, Sb a → E a ∨ T a) → Got K c g W (relO K) σ F H T Q (fo oa ob ρ) → r x y H Q
theorem Got.weak {α β : Type} {rel : Hp → Hp → β → α → (Addr → Prop) → Prop} {Q : β → Hp → Prop} {F1 H1 : Hp} {T1 : Addr → Prop} {r : R α} (h : Got K c g W rel σ F H T Q r) (f1 : Same F F1) (k1 : ∀ a, T a → H1 a = H a) (t1 : ∀ a, T a → T1 a)
    (mono : ∀ F H b x (S S' : Addr → Prop), rel F H b x S → (∀ a, S a → S' a) → rel F H b x S') : Got K c g W rel σ F1 H1 T1 Q r := by
  cases r with
  | ok x ρ' =>
    refine fun b F' H' E' S' f k M d r => h b F' H' E' S' (f1.trans f) (fun a x => (k a (t1 a x)).trans (k1 a x)) (M.less fun a x => x.imp (t1 a) id) (fun a x y => d a (t1 a x) y) r
  | exc cl ρ' => exact fun C F' H' E' a q M => h C F' H' E' a (f1.trans q) M
  | bad => exact h
theorem exU {α β α' β' : Type} {rel : Hp → Hp → β → α → (Addr → Prop) → Prop} {rel' : Hp → Hp → β' → α' → (Addr → Prop) → Prop} {Q : β → Hp → Prop} {Q' : β' → Hp → Prop} {F1 H1 : Hp} {T1 : Addr → Prop} {cl : Str} (f : Same F F1) (h : Got K c g W rel σ F H T Q (.exc cl ρ)) : Got K c g W rel' σ F1 H1 T1 Q' (.exc cl ρ) :=
  fun C F' H' E' a q M => h C F' H' E' a (f.trans q) M
theorem relO_mono : ∀ (F H : Hp) (v : V) (o : O) (S S' : Addr → Prop), RpO K F H v o S → (∀ a, S a → S' a) → RpO K F H v o S' := fun _ _ _ _ _ _ r m => r.mono m
theorem conv_bin {r : R2} {fo : O → O → Ev → R O} {a b : Ag} (sv : Serves K c g W r fo) (σ : St) (H : Hp) (Q : VK) (h : tM K c g W (mBin fo a b) σ H Q) : tOp r (tAg K c g W a) (tAg K c g W b) σ H Q := by
  obtain ⟨ρ, F, E, T, M, h⟩ := h
  unfold mBin at h
  refine run_ag M ?_
  cases e1 : evA a ρ with
  | exc cl ρ1 => rw [e1] at h; exact h
  | bad => rw [e1] at h; exact h
  | ok da ρ1 =>
    rw [e1] at h
    intro x F1 H1 E1 S1 f1 k1 M1 d1 r1
    refine run_ag M1 ?_
    simp only at h
    cases e2 : evA b ρ1 with
    | exc cl ρ2 => rw [e2] at h; exact exU f1 h
    | bad => rw [e2] at h; exact h
    | ok db ρ2 =>
      rw [e2] at h
      intro y F2 H2 E2 S2 f2 k2 M2 d2 r2
      simp only at h
      cases e3 : oOf ρ2 da with
      | none => rw [e3] at h; exact h.elim
      | some oa =>
        rw [e3] at h
        simp only at h
        cases e4 : oOf ρ2 db with
        | none => rw [e4] at h; exact h.elim
        | some ob =>
          rw [e4] at h
          simp only at h
          obtain ⟨Sa, ra, ha⟩ := (r1.frame f2 fun a x => k2 a (.inr x)).rp M2 (fun a x => .inl (.inr x)) e3
          obtain ⟨Sb, rb, hb⟩ := r2.rp M2 (fun a x => .inr x) e4
          exact sv ρ2 σ F2 H2 E2 _ Sa Sb x y oa ob Q M2 ra rb ha hb (h.weak (f1.trans f2) (fun a x => (k2 a (.inl x)).trans (k1 a x)) (fun a x => .inl (.inl x)) relO_mono)
def mUn (fo : O → Ev → R O) (a : Ag) : ME := fun ρ => match evA a ρ with
  | .ok da ρ1 => match oOf ρ1 da with
    | some oa => fo oa ρ1
    | none => .bad
  | .exc cl ρ1 => .exc cl ρ1
  | .bad => .bad
def Serves1 (K : PySem.W.Frag) (c : Cc) (g : Str → Option Value) (W : WX) (r : V → Hp → VK → Prop) (fo : O → Ev → R O) : Prop :=
  ∀ (ρ : Ev) (σ : St) (F H : Hp) (E T Sa : Addr → Prop) (x : V) (oa : O) (Q : VK), MI K c ρ σ F H E T → RpO K F H x oa Sa → (∀ a, Sa a → E a ∨ T a) → Got K c g W (relO K) σ F H T Q (fo oa ρ) → r x H Q
theorem conv_un {r : V → Hp → VK → Prop} {fo : O → Ev → R O} {a : Ag} (sv : Serves1 K c g W r fo) (σ : St) (H : Hp) (Q : VK) (h : tM K c g W (mUn fo a) σ H Q) : tUn r (tAg K c g W a) σ H Q := by
  obtain ⟨ρ, F, E, T, M, h⟩ := h
  unfold mUn at h
  refine run_ag M ?_
  cases e1 : evA a ρ with
  | exc cl ρ1 => rw [e1] at h; exact h
  | bad => rw [e1] at h; exact h
  | ok da ρ1 =>
    rw [e1] at h
    intro x F1 H1 E1 S1 f1 k1 M1 d1 r1
    simp only at h
    cases e3 : oOf ρ1 da with
    | none => rw [e3] at h; exact h.elim
    | some oa =>
      rw [e3] at h
      simp only at h
      obtain ⟨Sa, ra, ha⟩ := r1.rp M1 (fun a x => .inr x) e3
      exact sv ρ1 σ F1 H1 E1 _ Sa x oa Q M1 ra ha (h.weak f1 k1 (fun a x => .inl x) relO_mono)
theorem conv_cons {a : Ag} {as : List Ag} (σ : St) (H : Hp) (Q : List V → Hp → Prop) (h : tMA K c g W (a :: as) σ H Q) : tCons (tAg K c g W a) (tMA K c g W as) σ H Q := by
  obtain ⟨ρ, F, E, T, M, h⟩ := h
  unfold evAs at h
  refine run_ag M ?_
  cases e1 : evA a ρ with
  | exc cl ρ1 => rw [e1] at h; exact h
  | bad => rw [e1] at h; exact h
  | ok da ρ1 =>
    rw [e1] at h
    intro x F1 H1 E1 S1 f1 k1 M1 d1 r1
    simp only at h
    refine ⟨ρ1, F1, E1, _, M1, ?_⟩
    cases e2 : evAs as ρ1 with
    | exc cl ρ2 => rw [e2] at h; exact exU f1 h
    | bad => rw [e2] at h; exact h
    | ok ds ρ2 =>
      rw [e2] at h
      intro vs F2 H2 E2 S2 f2 k2 M2 d2 r2
      simp only at h
      refine h (x :: vs) F2 H2 E2 (fun a => S1 a ∨ S2 a) (f1.trans f2) (fun a x => (k2 a (.inl x)).trans (k1 a x)) (M2.less fun a x => ?_) (fun a x y => ?_) (.cons (r1.frame f2 fun a x => k2 a (.inr x)) r2 (fun a x => .inl x) (fun a x => .inr x) fun a x y => d2 a (.inr x) y)
      · rcases x with x | x | x
        · exact .inl (.inl x)
        · exact .inl (.inr x)
        · exact .inr x
      · rcases y with y | y
        · exact d1 a x y
        · exact d2 a (.inl x) y
theorem conv_nil (σ : St) (H : Hp) (Q : List V → Hp → Prop) (h : tMA K c g W [] σ H Q) : tNil σ H Q := by
  obtain ⟨ρ, F, E, T, M, h⟩ := h
  exact h [] F H E Em (Same.refl F) (fun _ _ => rfl) M.em (fun _ _ x => x) .nil
end

abbrev PX (X : Cx) (c : Cc) (W : WX) (e : Expr) (a : Ag) : Prop := PE X e (tAg X.K c X.mg W a)
abbrev PM (X : Cx) (c : Cc) (W : WX) (e : Expr) (m : ME) : Prop := PE X e (tM X.K c X.mg W m)
abbrev PTM (X : Cx) (c : Cc) (W : WX) (e : Expr) (m : Ev → R Bool) : Prop := PT X e (tMT X.K c X.mg W m)
abbrev PAM (X : Cx) (c : Cc) (W : WX) (es : List Expr) (as : List Ag) : Prop := PA X es (tMA X.K c X.mg W as)
section
variable {X : Cx} {c : Cc} {W : WX} {e e1 e2 : Expr} {es : List Expr} {t t' : TE} {u u' : TT} {w w' : TA} {a b : Ag} {as : List Ag} {m : ME} {pos : Pos}
theorem pe_conv (h : PE X e t) (k : ∀ σ H Q, t' σ H Q → t σ H Q) : PE X e t' := ⟨fun pins s σ H Q I q => h.run pins s σ H Q I (k σ H Q q)⟩
theorem pt_conv (h : PT X e u) (k : ∀ σ H Q, u' σ H Q → u σ H Q) : PT X e u' := ⟨fun pins s σ H Q I q => h.run pins s σ H Q I (k σ H Q q)⟩
theorem pw_conv (h : PW X e u) (k : ∀ σ H Q, u' σ H Q → u σ H Q) : PW X e u' := ⟨fun wh pins s σ H Q I q => h.run wh pins s σ H Q I (k σ H Q q)⟩
theorem pa_conv (h : PA X es w) (k : ∀ σ H Q, w' σ H Q → w σ H Q) : PA X es w' := ⟨fun pos pins s σ H Q I q => h.run pos pins s σ H Q I (k σ H Q q)⟩
theorem xa_nil : PAM X c W [] [] := pa_conv pa_nil fun σ H Q h => conv_nil σ H Q h
theorem xa_cons (ha : PX X c W e a) (hr : PAM X c W es as) (hs : starEach (e :: es) X.env = (false, eval e X.env) :: starEach es X.env := by rfl) : PAM X c W (e :: es) (a :: as) :=
  pa_conv (pa_cons ha hr hs) fun σ H Q h => conv_cons σ H Q h

def mC (u : U) : ME := fun ρ => .ok (.sh u) ρ
def mVar (i : Nat) : ME := fun ρ => match ρ[i]? with
  | some (some (.sh u)) => .ok (.sh u) ρ
  | some (some o) => match viewO o with
    | some u => .ok (.sh u) (ρ.set i (some (.sh u)))
    | none => .bad
  | _ => .bad
def mTake (i : Nat) : ME := fun ρ => match ρ[i]? with
  | some (some (.sh u)) => .ok (.sh u) ρ
  | some (some o) => .ok o (ρ.set i none)
  | _ => .bad
theorem x_int {i : Int} {j : Nat} : PM X c W (.Constant (.int i) j pos) (mC (.int i)) := pe_conv pe_int fun σ H Q ⟨ρ, F, E, T, M, h⟩ => h.sc M (.int i)
theorem x_bl {b : Bool} {j : Nat} : PM X c W (.Constant (.bool b) j pos) (mC (.bool b)) := pe_conv pe_bl fun σ H Q ⟨ρ, F, E, T, M, h⟩ => h.sc M (.bl b)
theorem x_non {j : Nat} : PM X c W (.Constant .none j pos) (mC .none) := pe_conv pe_non fun σ H Q ⟨ρ, F, E, T, M, h⟩ => h.sc M .non
theorem conv_var {K : PySem.W.Frag} {g : Str → Option Value} (i : Nat) (σ : St) (H : Hp) (Q : VK) (h : tM K c g W (mVar i) σ H Q) : tVar i σ H Q := by
  obtain ⟨ρ, F, E, T, M, h⟩ := h
  unfold mVar at h
  have own : ∀ o u, ρ[i]? = some (some o) → viewO o = some u → Got K c g W (relO K) σ F H T Q (.ok (.sh u) (ρ.set i (some (.sh u)))) → tVar i σ H Q := fun o u q1 q2 h => by
    obtain ⟨v, S, E', h1, r, M1, d⟩ := M.take q1
    obtain ⟨F', f, M2, dv⟩ := M1.freeze d r q2
    have M3 := (M2.em).back (o := .sh u) (v := v) (i := i) (fun _ _ x => x) (.sh dv) h1
    rw [List.set_set] at M3
    exact ⟨v, h1, h v F' H _ Em f (fun _ _ => rfl) M3.em (fun _ _ x => x) (.sh dv)⟩
  cases q : ρ[i]? with
  | none => rw [q] at h; exact h.elim
  | some x =>
    cases x with
    | none => rw [q] at h; exact h.elim
    | some o =>
      rw [q] at h
      cases o with
      | sh u =>
        obtain ⟨v, S', h1, h2, h3⟩ := M.env.get q
        cases h2 with
        | sh dv => exact ⟨v, h1, h.sc M dv⟩
      | ol os =>
        simp only at h
        cases q2 : viewO (.ol os) with
        | none => rw [q2] at h; exact h.elim
        | some u => rw [q2] at h; exact own _ u q q2 h
      | ot os =>
        simp only at h
        cases q2 : viewO (.ot os) with
        | none => rw [q2] at h; exact h.elim
        | some u => rw [q2] at h; exact own _ u q q2 h
      | od os =>
        simp only [viewO] at h
        exact h.elim
      | nd os =>
        simp only [viewO] at h
        exact h.elim
      | nf os =>
        simp only [viewO] at h
        exact h.elim
      | ins _ _ =>
        simp only [viewO] at h
        exact h.elim
      | fi _ _ =>
        simp only [viewO] at h
        exact h.elim
      | dl _ _ =>
        simp only [viewO] at h
        exact h.elim
      | df _ =>
        simp only [viewO] at h
        exact h.elim
      | sc os =>
        simp only [viewO] at h
        exact h.elim
theorem conv_take {K : PySem.W.Frag} {g : Str → Option Value} (i : Nat) (σ : St) (H : Hp) (Q : VK) (h : tM K c g W (mTake i) σ H Q) : tVar i σ H Q := by
  obtain ⟨ρ, F, E, T, M, h⟩ := h
  unfold mTake at h
  have own : ∀ o, ρ[i]? = some (some o) → Got K c g W (relO K) σ F H T Q (.ok o (ρ.set i none)) → tVar i σ H Q := fun o q1 h => by
    obtain ⟨v, S, E', h1, r, M1, d⟩ := M.take q1
    exact ⟨v, h1, h v F H E' S (Same.refl F) (fun _ _ => rfl) M1 d r⟩
  cases q : ρ[i]? with
  | none => rw [q] at h; exact h.elim
  | some x =>
    cases x with
    | none => rw [q] at h; exact h.elim
    | some o =>
      rw [q] at h
      cases o with
      | sh u =>
        obtain ⟨v, S', h1, h2, h3⟩ := M.env.get q
        cases h2 with
        | sh dv => exact ⟨v, h1, h.sc M dv⟩
      | ol os => exact own _ q h
      | ot os => exact own _ q h
      | od os => exact own _ q h
      | nd os => exact own _ q h
      | nf os => exact own _ q h
      | ins _ _ => exact own _ q h
      | fi _ _ => exact own _ q h
      | dl _ _ => exact own _ q h
      | df _ => exact own _ q h
      | sc os => exact own _ q h
theorem x_var (i : Nat) (h : PE X e (tVar i)) : PM X c W e (mVar i) := pe_conv h fun σ H Q q => conv_var i σ H Q q
theorem x_take (i : Nat) (h : PE X e (tVar i)) : PM X c W e (mTake i) := pe_conv h fun σ H Q q => conv_take i σ H Q q
theorem x_bin {op : Operator} {r : R2} {fo : O → O → Ev → R O} (sv : Serves X.K c X.mg W r fo) (ho : OpR X (binaryOp op) r) (ha : PX X c W e1 a) (hb : PX X c W e2 b) : PM X c W (.BinOp e1 op e2 pos) (mBin fo a b) :=
  pe_conv (pe_op ho ha hb) fun σ H Q h => conv_bin sv σ H Q h
theorem x_cmp {op : CmpOp} {r : R2} {fo : O → O → Ev → R O} (sv : Serves X.K c X.mg W r fo) (ho : OpR X (compareOp op) r) (ha : PX X c W e1 a) (hb : PX X c W e2 b) (hm : behindInMarks op e2 = false) : PM X c W (.Compare e1 [op] [e2] pos) (mBin fo a b) :=
  pe_conv (pe_cmpR ho ha hb hm) fun σ H Q h => conv_bin sv σ H Q h
theorem x_un {op : UnaryOp} {r : V → Hp → VK → Prop} {fo : O → Ev → R O} (sv : Serves1 X.K c X.mg W r fo) (ho : UnR X (unaryOp op) r) (ha : PX X c W e1 a) : PM X c W (.UnaryOp op e1 pos) (mUn fo a) :=
  pe_conv (pe_un ho ha) fun σ H Q h => conv_un sv σ H Q h
end
end MM
namespace MM
open PySem L2

def intE : O → Option Int
  | .sh (.int i) => some i
  | _ => none
def strE : O → Option Str
  | .sh (.str x) => some x
  | _ => none
def blE : O → Option Bool
  | .sh (.bool b) => some b
  | _ => none
def allSh : List O → Option (List U)
  | [] => some []
  | .sh u :: os => match allSh os with
    | some us => some (u :: us)
    | none => none
  | _ :: _ => none
def lstE : O → Option (List U)
  | .sh (.list us) => some us
  | .ol os => allSh os
  | _ => none
def tupE : O → Option (List U)
  | .sh (.tuple us) => some us
  | .ot os => allSh os
  | _ => none
def tupS : O → Option (List U)
  | .sh (.tuple us) => some us
  | _ => none
def shs (us : List U) : List O := us.map .sh
section
variable {K : PySem.W.Frag} {c : Cc} {g : Str → Option Value} {W : WX} {ρ ρ' : Ev} {σ σ' : St} {F F' H H' : Hp} {E E' T T' S S1 S2 : Addr → Prop} {v : V} {o : O} {u : U} {us : List U} {vs : List V} {os : List O} {Q : V → Hp → Prop}
theorem intE_ok {i : Int} (r : RpO K F H v o S) (e : intE o = some i) : v = .int i := by
  unfold intE at e
  split at e
  · cases e; cases r with | sh d => cases d; rfl
  · cases e
theorem strE_ok {i : Str} (r : RpO K F H v o S) (e : strE o = some i) : v = .str i := by
  unfold strE at e
  split at e
  · cases e; cases r with | sh d => cases d; rfl
  · cases e
theorem blE_ok {i : Bool} (r : RpO K F H v o S) (e : blE o = some i) : v = .bl i := by
  unfold blE at e
  split at e
  · cases e; cases r with | sh d => cases d; rfl
  · cases e
theorem allSh_ok : ∀ {os : List O} {vs : List V} {us : List U} {S : Addr → Prop}, RpOs K F H vs os S → allSh os = some us → DqAll K F vs us
  | [], _, _, _, r, e => by
    cases r
    simp only [allSh, Option.some.injEq] at e
    subst e
    exact .nil
  | o :: os, _, _, _, r, e => by
    cases r with
    | cons r rs s1 s2 d =>
      cases o with
      | sh u =>
        simp only [allSh] at e
        cases q : allSh os with
        | none => rw [q] at e; cases e
        | some us =>
          rw [q] at e
          cases e
          cases r with | sh dv => exact .cons dv (allSh_ok rs q)
      | ol os => simp [allSh] at e
      | ot os => simp [allSh] at e
      | od os => simp [allSh] at e
      | nd os => simp [allSh] at e
      | nf os => simp [allSh] at e
      | ins _ _ => simp [allSh] at e
      | fi _ _ => simp [allSh] at e
      | dl _ _ => simp [allSh] at e
      | df _ => simp [allSh] at e
      | sc os => simp [allSh] at e
theorem lstE_ok (hF : Same F H) (r : RpO K F H v o S) (e : lstE o = some us) : ∃ p vs, v = .ref p ∧ Rd H p (.lst vs) ∧ DqAll K F vs us := by
  cases o with
  | sh u =>
    cases u with
    | list xs =>
      simp only [lstE, Option.some.injEq] at e
      subst e
      cases r with
      | sh d => cases d with | lst h a => exact ⟨_, _, rfl, Rd.mono hF (.inl h), a⟩
    | _ => simp [lstE] at e
  | ol os =>
    cases r with
    | ol h p r s n => exact ⟨_, _, rfl, .inl h, allSh_ok r e⟩
  | ot os => simp [lstE] at e
  | od os => simp [lstE] at e
  | nd os => simp [lstE] at e
  | nf os => simp [lstE] at e
  | ins _ _ => simp [lstE] at e
  | fi _ _ => simp [lstE] at e
  | dl _ _ => simp [lstE] at e
  | df _ => simp [lstE] at e
  | sc os => simp [lstE] at e
theorem tupE_ok (hF : Same F H) (r : RpO K F H v o S) (e : tupE o = some us) : ∃ p vs, v = .ref p ∧ SqT K H p vs ∧ DqAll K F vs us := by
  cases o with
  | sh u =>
    cases u with
    | tuple xs =>
      simp only [tupE, Option.some.injEq] at e
      subst e
      cases r with
      | sh d => cases d with | tup h a => exact ⟨_, _, rfl, SqT.mono hF h, a⟩
    | _ => simp [tupE] at e
  | ot os =>
    cases r with
    | ot h p r s n => exact ⟨_, _, rfl, .inl (.inl h), allSh_ok r e⟩
  | ol os => simp [tupE] at e
  | od os => simp [tupE] at e
  | nd os => simp [tupE] at e
  | nf os => simp [tupE] at e
  | ins _ _ => simp [tupE] at e
  | fi _ _ => simp [tupE] at e
  | dl _ _ => simp [tupE] at e
  | df _ => simp [tupE] at e
  | sc os => simp [tupE] at e
theorem tupS_ok (r : RpO K F H v o S) (e : tupS o = some us) : ∃ p vs, v = .ref p ∧ SqT K F p vs ∧ DqAll K F vs us := by
  unfold tupS at e
  split at e
  · cases e; cases r with | sh d => cases d with | tup h a => exact ⟨_, _, rfl, h, a⟩
  · cases e
theorem shs_ok : ∀ {vs : List V} {us : List U}, DqAll K F vs us → RpOs K F H vs (shs us) Em
  | _, _, .nil => .nil
  | _, _, .cons h t => .cons (.sh h) (shs_ok t) (fun _ x => x) (fun _ x => x) fun _ x _ => x
theorem viewOs_shs : ∀ us : List U, viewOs (shs us) = some us
  | [] => rfl
  | u :: us => by
    have ih := viewOs_shs us
    unfold shs at ih ⊢
    simp only [List.map_cons, viewOs, viewO, ih]
theorem got_list (h : Got K c g W (relO K) σ F H T Q (.ok (.ol (shs us)) ρ)) (M : MI K c ρ σ F H E T) {p : Addr} (hp : H p = none) (d : DqAll K F vs us) : Q (.ref p) (upd H p (.lst vs)) := by
  have hne : ∀ a, T a → a ≠ p := fun a x z => by subst z; exact (M.own _ (.inr x)).2.1 hp
  exact h (.ref p) F _ E (fun a => a = p) (Same.refl F) (fun a x => upd_ne (hne a x)) (M.new hp) (fun a x y => hne a x y) (.ol upd_same rfl (shs_ok d) (fun a x => x.elim) (fun x => x))
theorem got_tup (h : Got K c g W (relO K) σ F H T Q (.ok (.sh (.tuple us)) ρ)) (M : MI K c ρ σ F H E T) {p : Addr} (hp : H p = none) (d : DqAll K F vs us) : Q (.ref p) (upd H p (.tup vs)) := by
  have hne : ∀ a, T a → a ≠ p := fun a x z => by subst z; exact (M.own _ (.inr x)).2.1 hp
  obtain ⟨F', f, M2, dv⟩ := (M.new hp).freeze (o := .ot (shs us)) (u := .tuple us) (v := .ref p) (fun a x y => hne a x y) (.ot upd_same rfl (shs_ok d) (fun a x => x.elim) (fun x => x)) (by simp only [viewO, viewOs_shs])
  exact h (.ref p) F' _ E Em f (fun a x => upd_ne (hne a x)) M2.em (fun _ _ x => x) (.sh dv)
end

def fI (f : Int → Int → Option U) (a b : O) (ρ : Ev) : R O := match intE a with
  | some i => match intE b with
    | some j => match f i j with
      | some u => .ok (.sh u) ρ
      | none => .bad
    | none => .bad
  | none => .bad
theorem serve_I {K : PySem.W.Frag} {c : Cc} {g : Str → Option Value} {W : WX} {r : R2} {f : Int → Int → Option U} (hr : ∀ i j u, f i j = some u → ∃ v, (∀ F, Dq K F v u) ∧ ∀ H (Q : VK), Q v H → r (.int i) (.int j) H Q) : Serves K c g W r (fI f) := by
  intro ρ σ F H E T Sa Sb x y oa ob Q M ra rb _ _ h
  unfold fI at h
  cases e1 : intE oa with
  | none => rw [e1] at h; exact h.elim
  | some i =>
    rw [e1] at h
    simp only at h
    cases e2 : intE ob with
    | none => rw [e2] at h; exact h.elim
    | some j =>
      rw [e2] at h
      simp only at h
      cases e3 : f i j with
      | none => rw [e3] at h; exact h.elim
      | some u =>
        rw [e3] at h
        have x1 := intE_ok ra e1
        have x2 := intE_ok rb e2
        subst x1; subst x2
        obtain ⟨v, dv, k⟩ := hr i j u e3
        exact k H Q (h.sc M (dv F))
def iSub (i j : Int) : Option U := some (.int (i - j))
def iMul (i j : Int) : Option U := if i.natAbs < 2 ^ 64 ∨ j.natAbs < 2 ^ 64 ∨ i.natAbs.log2 + j.natAbs.log2 < 1000000 then some (.int (i * j)) else none
def iDiv (i j : Int) : Option U := if 0 < j ∧ j.natAbs.log2 < 9000 then some (.int (i / j)) else if j ≠ 0 ∧ j.natAbs.log2 < 9000 then some (.int (i.fdiv j)) else none
def iMod (i j : Int) : Option U := if 0 < j then some (.int (i % j)) else if j ≠ 0 then some (.int (i.fmod j)) else none
def iPow (i j : Int) : Option U := if 0 ≤ j ∧ j ≤ 1000000 ∧ i.natAbs < 2 ^ 64 then some (.int (i ^ j.toNat)) else none
def CDivQ (i j : Int) : Prop := j ≠ 0 ∧ j.natAbs.log2 < 9000
def CMulQ (i j : Int) : Prop := i.natAbs < 2 ^ 64 ∨ j.natAbs < 2 ^ 64 ∨ i.natAbs.log2 + j.natAbs.log2 < 1000000
theorem CMulQ.ok {i j : Int} (h : CMulQ i j) : PySem.IntMulOk i j := by
  rcases h with h | h | h
  · exact CMul.ok (.inl (by omega))
  · exact CMul.ok (.inr (by omega))
  · exact CMulW.ok h
section
variable {X : Cx}
theorem op_mulQ : OpR X (binaryOp .Mult) (rI CMulQ fun i j => .int (i * j)) := opI fun _ _ _ _ _ _ _ hc q => PyProof.Rows.mul_int q hc.ok
theorem op_fdivQ : OpR X (binaryOp .FloorDiv) (rI CDivQ fun i j => .int (i.fdiv j)) := opI fun i j _ _ _ _ _ hc q => PyProof.Rows.floordiv_int hc.1 q (.inl (PyProof.noPylong_of_log2 hc.2))
theorem iop_mulQ : OpR X (inplaceOp .Mult) (rI CMulQ fun i j => .int (i * j)) := opI fun _ _ _ _ _ _ _ hc q => PyProof.Rows.imul_int q hc.ok
def rCatQ : R2 := fun x y H Q => ∃ l b xs zs, x = .ref l ∧ y = .ref b ∧ Rd H l (.lst xs) ∧ Rd H b (.lst zs) ∧ xs.length + zs.length ≤ sizeLine ∧ ∀ p, H p = none → Q (.ref p) (upd H p (.lst (xs ++ zs)))
theorem op_catQ : OpR X (binaryOp .Add) rCatQ := by
  intro pins s σ H x y v u Q I rx ry h
  obtain ⟨l, b, xs, zs, rfl, rfl, hH, hB, hz, q⟩ := h
  cases rx
  cases ry
  obtain ⟨_, its, n, r, e⟩ := hH.ok I.hok
  obtain ⟨_, its2, n2, r2, e2⟩ := hB.ok I.hok
  have hl := r.length
  have hl2 := r2.length
  refine PySem.P.add_list e e2 ?_ (by rw [List.size_toArray, List.size_toArray]; omega)
  have ea : its.toArray ++ its2.toArray = (its ++ its2).toArray := by simp
  rw [ea]
  exact ⟨.ref _, _, I.lnew (t' := s.toks) (r.append r2) (by rw [List.length_append]; omega), rfl, q _ I.fresh⟩
end
section
variable {K : PySem.W.Frag} {c : Cc} {g : Str → Option Value} {W : WX}
theorem sv_sub : Serves K c g W (rI0 fun i j => .int (i - j)) (fI iSub) := serve_I fun i j u e => by cases e; exact ⟨_, fun _ => .int _, fun H Q q => ⟨i, j, rfl, rfl, q⟩⟩
theorem sv_mulI : Serves K c g W (rI CMulQ fun i j => .int (i * j)) (fI iMul) := serve_I fun i j u e => by
  unfold iMul at e
  split at e
  · cases e; exact ⟨_, fun _ => .int _, fun H Q q => ⟨i, j, rfl, rfl, by assumption, q⟩⟩
  · cases e
theorem sv_div : Serves K c g W (rI CDivQ fun i j => .int (i.fdiv j)) (fI iDiv) := serve_I fun i j u e => by
  unfold iDiv at e
  split at e
  · rename_i h
    cases e; exact ⟨_, fun _ => .int _, fun H Q q => ⟨i, j, rfl, rfl, ⟨by omega, h.2⟩, by show Q (.int (i.fdiv j)) H; rw [Int.fdiv_eq_ediv_of_nonneg i (by omega)]; exact q⟩⟩
  · split at e
    · cases e; exact ⟨_, fun _ => .int _, fun H Q q => ⟨i, j, rfl, rfl, by assumption, q⟩⟩
    · cases e
theorem sv_mod : Serves K c g W (rI (fun _ j => j ≠ 0) fun i j => .int (i.fmod j)) (fI iMod) := serve_I fun i j u e => by
  unfold iMod at e
  split at e
  · rename_i h
    cases e; exact ⟨_, fun _ => .int _, fun H Q q => ⟨i, j, rfl, rfl, by omega, by show Q (.int (i.fmod j)) H; rw [Int.fmod_eq_emod_of_nonneg i (by omega)]; exact q⟩⟩
  · split at e
    · cases e; exact ⟨_, fun _ => .int _, fun H Q q => ⟨i, j, rfl, rfl, by assumption, q⟩⟩
    · cases e
theorem sv_pow : Serves K c g W (rI CPow fun i j => .int (i ^ j.toNat)) (fI iPow) := serve_I fun i j u e => by
  unfold iPow at e
  split at e
  · cases e; exact ⟨_, fun _ => .int _, fun H Q q => ⟨i, j, rfl, rfl, by assumption, q⟩⟩
  · cases e
def iLt (i j : Int) : Option U := some (.bool (decide (i < j)))
def iLe (i j : Int) : Option U := some (.bool (decide (i ≤ j)))
def iGt (i j : Int) : Option U := some (.bool (decide (j < i)))
def iGe (i j : Int) : Option U := some (.bool (decide (j ≤ i)))
theorem sv_lt : Serves K c g W (rI0 fun i j => .bl (decide (i < j))) (fI iLt) := serve_I fun i j u e => by cases e; exact ⟨_, fun _ => .bl _, fun H Q q => ⟨i, j, rfl, rfl, q⟩⟩
theorem sv_le : Serves K c g W (rI0 fun i j => .bl (decide (i ≤ j))) (fI iLe) := serve_I fun i j u e => by cases e; exact ⟨_, fun _ => .bl _, fun H Q q => ⟨i, j, rfl, rfl, q⟩⟩
theorem sv_gt : Serves K c g W (rI0 fun i j => .bl (decide (j < i))) (fI iGt) := serve_I fun i j u e => by cases e; exact ⟨_, fun _ => .bl _, fun H Q q => ⟨i, j, rfl, rfl, q⟩⟩
theorem sv_ge : Serves K c g W (rI0 fun i j => .bl (decide (j ≤ i))) (fI iGe) := serve_I fun i j u e => by cases e; exact ⟨_, fun _ => .bl _, fun H Q q => ⟨i, j, rfl, rfl, q⟩⟩

def fAdd (a b : O) (ρ : Ev) : R O := match intE a with
  | some i => match intE b with
    | some j => .ok (.sh (.int (i + j))) ρ
    | none => .bad
  | none => match strE a with
    | some x => match strE b with
      | some y => if x.length + y.length ≤ 16777216 then .ok (.sh (.str (x ++ y))) ρ else .bad
      | none => .bad
    | none => match lstE a with
      | some us => match lstE b with
        | some ws => if us.length + ws.length ≤ 16777216 then .ok (.ol (shs (us ++ ws))) ρ else .bad
        | none => .bad
      | none => match tupS a with
        | some us => match tupS b with
          | some ws => if us.length + ws.length ≤ 16777216 then .ok (.sh (.tuple (us ++ ws))) ρ else .bad
          | none => .bad
        | none => .bad
abbrev rAddQ (K : PySem.W.Frag) : R2 := fun x y H Q => (rI0 fun i j => .int (i + j)) x y H Q ∨ ((∃ i j, x = .str i ∧ y = .str j ∧ i.length + j.length ≤ sizeLine ∧ Q (.str (i ++ j)) H) ∨ (rCatQ x y H Q ∨ rCatA K x y H Q))
theorem op_addQ {X : Cx} : OpR X (binaryOp .Add) (rAddQ X.K) := op_add.or (op_add_str.or (op_catQ.or op_catA))
theorem line_eq : sizeLine = 16777216 := by decide
theorem sv_add : Serves K c g W (rAddQ K) fAdd := by
  intro ρ σ F H E T Sa Sb x y oa ob Q M ra rb _ _ h
  unfold fAdd at h
  cases e1 : intE oa with
  | some i =>
    rw [e1] at h
    simp only at h
    cases e2 : intE ob with
    | none => rw [e2] at h; exact h.elim
    | some j =>
      rw [e2] at h
      exact .inl ⟨i, j, intE_ok ra e1, intE_ok rb e2, h.sc M (.int _)⟩
  | none =>
    rw [e1] at h
    simp only at h
    cases e2 : strE oa with
    | some i =>
      rw [e2] at h
      simp only at h
      cases e3 : strE ob with
      | none => rw [e3] at h; exact h.elim
      | some j =>
        rw [e3] at h
        simp only at h
        split at h
        · exact .inr (.inl ⟨i, j, strE_ok ra e2, strE_ok rb e3, by rw [line_eq]; assumption, h.sc M (.str _)⟩)
        · exact h.elim
    | none =>
      rw [e2] at h
      simp only at h
      cases e3 : lstE oa with
      | some us =>
        rw [e3] at h
        simp only at h
        cases e4 : lstE ob with
        | none => rw [e4] at h; exact h.elim
        | some ws =>
          rw [e4] at h
          simp only at h
          split at h
          · rename_i hz
            obtain ⟨p, vs, rfl, h1, d1⟩ := lstE_ok M.ff ra e3
            obtain ⟨q, zs, rfl, h2, d2⟩ := lstE_ok M.ff rb e4
            exact .inr (.inr (.inl ⟨p, q, vs, zs, rfl, rfl, h1, h2, by rw [d1.len, d2.len, line_eq]; exact hz, fun a ha => got_list h M ha (d1.append d2)⟩))
          · exact h.elim
      | none =>
        rw [e3] at h
        simp only at h
        cases e4 : tupS oa with
        | none => rw [e4] at h; exact h.elim
        | some us =>
          rw [e4] at h
          simp only at h
          cases e5 : tupS ob with
          | none => rw [e5] at h; exact h.elim
          | some ws =>
            rw [e5] at h
            simp only at h
            split at h
            · rename_i hz
              obtain ⟨p, vs, rfl, h1, d1⟩ := tupS_ok ra e4
              obtain ⟨q, zs, rfl, h2, d2⟩ := tupS_ok rb e5
              have l1 := d1.len
              have l2 := d2.len
              refine .inr (.inr (.inr ⟨p, q, vs, zs, rfl, rfl, SqT.mono M.ff h1, SqT.mono M.ff h2, by rw [l1, l2, line_eq]; exact hz, fun z => ?_, fun z1 z2 => ?_, fun _ _ a ha => got_tup h M ha (d1.append d2)⟩))
              · subst z
                have : us = [] := List.length_eq_zero_iff.mp l1.symm
                subst this
                exact h.sc M (.tup h2 d2)
              · subst z2
                have : ws = [] := List.length_eq_zero_iff.mp l2.symm
                subst this
                rw [List.append_nil] at h
                exact h.sc M (.tup h1 d1)
            · exact h.elim
end
end MM
namespace MM
open PySem L2

section
variable {K : PySem.W.Frag} {c : Cc} {g : Str → Option Value} {W : WX}
def olE : O → Option (List U)
  | .ol os => allSh os
  | _ => none
def fMul (a b : O) (ρ : Ev) : R O := match intE b with
  | some j => match intE a with
    | some i => match iMul i j with
      | some u => .ok (.sh u) ρ
      | none => .bad
    | none => match olE a with
      | some us => if -100000 ≤ j ∧ j ≤ 100000 ∧ us.length * j.toNat ≤ 16777216 then .ok (.ol (shs (List.replicate j.toNat us).flatten)) ρ else .bad
      | none => .bad
  | none => .bad
abbrev rMulQ : R2 := fun x y H Q => (rI CMulQ fun i j => .int (i * j)) x y H Q ∨ rRep x y H Q
theorem op_mulA {X : Cx} : OpR X (binaryOp .Mult) rMulQ := op_mulQ.or op_rep
theorem DqAll.flat {F : Hp} {vs : List V} {us : List U} (d : DqAll K F vs us) : ∀ n : Nat, DqAll K F (List.replicate n vs).flatten (List.replicate n us).flatten
  | 0 => .nil
  | n + 1 => by
    rw [List.replicate_succ, List.replicate_succ, List.flatten_cons, List.flatten_cons]
    exact d.append (DqAll.flat d n)
theorem sv_mul : Serves K c g W rMulQ fMul := by
  intro ρ σ F H E T Sa Sb x y oa ob Q M ra rb _ _ h
  unfold fMul at h
  cases e1 : intE ob with
  | none => rw [e1] at h; exact h.elim
  | some j =>
    rw [e1] at h
    simp only at h
    cases e2 : intE oa with
    | some i =>
      rw [e2] at h
      simp only at h
      cases e3 : iMul i j with
      | none => rw [e3] at h; exact h.elim
      | some u =>
        rw [e3] at h
        unfold iMul at e3
        split at e3
        · cases e3
          exact .inl ⟨i, j, intE_ok ra e2, intE_ok rb e1, by assumption, h.sc M (.int _)⟩
        · cases e3
    | none =>
      rw [e2] at h
      simp only at h
      cases e3 : olE oa with
      | none => rw [e3] at h; exact h.elim
      | some us =>
        rw [e3] at h
        simp only at h
        split at h
        · rename_i hz
          cases oa with
          | ol os =>
            cases ra with
            | ol hp _ r s n =>
              have d := allSh_ok r e3
              have hl := d.len
              exact .inr ⟨_, j, _, rfl, intE_ok rb e1, hp, by omega, by omega, by rw [hl, line_eq]; exact hz.2.2, fun a ha => got_list h M ha (d.flat j.toNat)⟩
          | _ => simp [olE] at e3
        · exact h.elim
def rEqP (K : PySem.W.Frag) : R2 := fun x y H Q => ∃ d e, Dq K H x d ∧ Dq K H y e ∧ (d.depth ≤ 60 ∨ e.depth ≤ 60) ∧ Q (.bl (PyData.eqv d e)) H
def rNeP (K : PySem.W.Frag) : R2 := fun x y H Q => ∃ d e, Dq K H x d ∧ Dq K H y e ∧ (d.depth ≤ 60 ∨ e.depth ≤ 60) ∧ Q (.bl (!PyData.eqv d e)) H
theorem op_eqP {X : Cx} (hu : X.A.units + 64 < cLine) : OpR X (compareOp .Eq) (rEqP X.K) := by
  intro pins s σ H x y v u Q I rx ry h
  obtain ⟨d, e, hd, he, hz, q⟩ := h
  obtain ⟨as, r1⟩ := Dp.reads I d x v (Dq.dp _ _ hd) rx
  obtain ⟨bs, r2⟩ := Dp.reads I e y u (Dq.dp _ _ he) ry
  exact SeqAt.eq_plain r1 r2 (Dq.plain _ _ hd) (Dq.plain _ _ he) (by omega) ⟨.bl _, H, I, rfl, q⟩
theorem op_neP {X : Cx} (hu : X.A.units + 64 < cLine) : OpR X (compareOp .NotEq) (rNeP X.K) := by
  intro pins s σ H x y v u Q I rx ry h
  obtain ⟨d, e, hd, he, hz, q⟩ := h
  obtain ⟨as, r1⟩ := Dp.reads I d x v (Dq.dp _ _ hd) rx
  obtain ⟨bs, r2⟩ := Dp.reads I e y u (Dq.dp _ _ he) ry
  exact SeqAt.ne_plain r1 r2 (Dq.plain _ _ hd) (Dq.plain _ _ he) (by omega) ⟨.bl _, H, I, rfl, q⟩
def eqU (d e : U) : Option Bool := match d with
  | .int i => match e with
    | .int j => some (decide (i = j))
    | _ => some (PyData.eqv d e)
  | _ => if d.depth ≤ 60 ∨ e.depth ≤ 60 then some (PyData.eqv d e) else none
theorem eqU_ok {d e : U} {k : Bool} (h : eqU d e = some k) : (d.depth ≤ 60 ∨ e.depth ≤ 60) ∧ PyData.eqv d e = k := by
  unfold eqU at h
  split at h
  · split at h
    · cases h; exact ⟨.inl (by simp [PyData.depth]), by simp only [PyData.eqv]; rw [Bool.eq_iff_iff]; simp⟩
    · cases h; exact ⟨.inl (by simp [PyData.depth]), rfl⟩
  · split at h
    · cases h; exact ⟨by assumption, rfl⟩
    · cases h
def fEq (a b : O) (ρ : Ev) : R O := match viewO a with
  | some d => match viewO b with
    | some e => match eqU d e with
      | some k => .ok (.sh (.bool k)) ρ
      | none => .bad
    | none => .bad
  | none => .bad
def fNe (a b : O) (ρ : Ev) : R O := match viewO a with
  | some d => match viewO b with
    | some e => match eqU d e with
      | some k => .ok (.sh (.bool (!k))) ρ
      | none => .bad
    | none => .bad
  | none => .bad
theorem view_ok {ρ : Ev} {σ : St} {F H : Hp} {E T S : Addr → Prop} {v : V} {o : O} {u : U} (M : MI K c ρ σ F H E T) (r : RpO K F H v o S) (e : viewO o = some u) : Dq K H v u := r.data M.ff (fun _ _ => rfl) e
theorem sv_eq : Serves K c g W (rEqP K) fEq := by
  intro ρ σ F H E T Sa Sb x y oa ob Q M ra rb _ _ h
  unfold fEq at h
  cases e1 : viewO oa with
  | none => rw [e1] at h; exact h.elim
  | some d =>
    rw [e1] at h
    simp only at h
    cases e2 : viewO ob with
    | none => rw [e2] at h; exact h.elim
    | some e =>
      rw [e2] at h
      simp only at h
      cases e3 : eqU d e with
      | none => rw [e3] at h; exact h.elim
      | some k =>
        rw [e3] at h
        obtain ⟨z1, z2⟩ := eqU_ok e3
        exact ⟨d, e, view_ok M ra e1, view_ok M rb e2, z1, by rw [z2]; exact h.sc M (.bl _)⟩
theorem sv_ne : Serves K c g W (rNeP K) fNe := by
  intro ρ σ F H E T Sa Sb x y oa ob Q M ra rb _ _ h
  unfold fNe at h
  cases e1 : viewO oa with
  | none => rw [e1] at h; exact h.elim
  | some d =>
    rw [e1] at h
    simp only at h
    cases e2 : viewO ob with
    | none => rw [e2] at h; exact h.elim
    | some e =>
      rw [e2] at h
      simp only at h
      cases e3 : eqU d e with
      | none => rw [e3] at h; exact h.elim
      | some k =>
        rw [e3] at h
        obtain ⟨z1, z2⟩ := eqU_ok e3
        exact ⟨d, e, view_ok M ra e1, view_ok M rb e2, z1, by rw [z2]; exact h.sc M (.bl _)⟩
def isNonO : O → Bool
  | .sh .none => true
  | _ => false
theorem isNonO_ok {F H : Hp} {S : Addr → Prop} {v : V} {o : O} (r : RpO K F H v o S) : decide (v = .non) = isNonO o := by
  cases r with
  | sh d => cases d <;> rfl
  | ol _ _ _ _ _ => rfl
  | ot _ _ _ _ _ => rfl
  | sc _ _ => rfl
  | od _ _ => rfl
  | nd _ _ _ _ => rfl
  | nf _ _ _ _ => rfl
  | ins _ _ _ _ _ _ => rfl
  | fi _ _ _ => rfl
  | dl _ _ _ _ _ _ => rfl
  | df _ => rfl
def fIsN (a b : O) (ρ : Ev) : R O := if isNonO b = true then .ok (.sh (.bool (isNonO a))) ρ else .bad
theorem sv_isN : Serves K c g W (fun x y H Q => y = .non ∧ Q (.bl (decide (x = .non))) H) fIsN := by
  intro ρ σ F H E T Sa Sb x y oa ob Q M ra rb _ _ h
  unfold fIsN at h
  split at h
  · rename_i e
    rw [← isNonO_ok rb] at e
    exact ⟨of_decide_eq_true e, by rw [isNonO_ok ra]; exact h.sc M (.bl _)⟩
  · exact h.elim
def rInP (K : PySem.W.Frag) (n : Bool) : R2 := fun x y H Q => (∃ d ds, Dq K H x d ∧ (Dq K H y (.list ds) ∨ Dq K H y (.tuple ds)) ∧ d.depth ≤ 60 ∧ Q (.bl (n ^^ ds.any fun z => PyData.eqv z d)) H) ∨
  ∃ (k : Nat) (z : Str), x = .str ⟨#[k]⟩ ∧ y = .str z ∧ Q (.bl (n ^^ decide (k ∈ z.cps.toList))) H
theorem op_inP {X : Cx} (hu : X.A.units + 64 < cLine) : OpR X (compareOp .In) (rInP X.K false) := by
  intro pins s σ H x y v u Q I rx ry h
  rcases h with ⟨d, ds, hd, hy, hz, q⟩ | ⟨k, z, rfl, rfl, q⟩
  · obtain ⟨as, r1⟩ := Dp.reads I d x v (Dq.dp _ _ hd) rx
    rw [Bool.false_xor] at q
    rcases hy with hy | hy
    · obtain ⟨bs, r2⟩ := Dp.reads I _ y u (Dq.dp _ _ hy) ry
      have pl := Dq.plain _ _ hy
      rw [PyData.plain] at pl
      exact SeqAt.in_list_data r2 r1 pl (Dq.plain _ _ hd) (by omega) ⟨.bl _, H, I, rfl, q⟩
    · obtain ⟨bs, r2⟩ := Dp.reads I _ y u (Dq.dp _ _ hy) ry
      have pl := Dq.plain _ _ hy
      rw [PyData.plain] at pl
      exact SeqAt.in_tuple_data r2 r1 pl (Dq.plain _ _ hd) (by omega) ⟨.bl _, H, I, rfl, q⟩
  · rw [Bool.false_xor] at q
    exact op_in_sign pins s σ H _ _ v u Q I rx ry ⟨k, z, rfl, rfl, q⟩
theorem op_notInP {X : Cx} (hu : X.A.units + 64 < cLine) : OpR X (compareOp .NotIn) (rInP X.K true) := by
  intro pins s σ H x y v u Q I rx ry h
  rcases h with ⟨d, ds, hd, hy, hz, q⟩ | ⟨k, z, rfl, rfl, q⟩
  · obtain ⟨as, r1⟩ := Dp.reads I d x v (Dq.dp _ _ hd) rx
    rw [Bool.true_xor] at q
    rcases hy with hy | hy
    · obtain ⟨bs, r2⟩ := Dp.reads I _ y u (Dq.dp _ _ hy) ry
      have pl := Dq.plain _ _ hy
      rw [PyData.plain] at pl
      exact SeqAt.notIn_list_data r2 r1 pl (Dq.plain _ _ hd) (by omega) ⟨.bl _, H, I, rfl, q⟩
    · obtain ⟨bs, r2⟩ := Dp.reads I _ y u (Dq.dp _ _ hy) ry
      have pl := Dq.plain _ _ hy
      rw [PyData.plain] at pl
      exact SeqAt.notIn_tuple_data r2 r1 pl (Dq.plain _ _ hd) (by omega) ⟨.bl _, H, I, rfl, q⟩
  · rw [Bool.true_xor] at q
    exact op_notIn_sign pins s σ H _ _ v u Q I rx ry ⟨k, z, rfl, rfl, q⟩
def seqU : U → Option (List U)
  | .list us => some us
  | .tuple us => some us
  | _ => none
def inU (d e : U) : Option Bool := match seqU e with
  | some ds => if d.depth ≤ 60 then some (ds.any fun z => PyData.eqv z d) else none
  | none => match d with
    | .str x => match e with
      | .str z => match x.cps.toList with
        | [k] => some (decide (k ∈ z.cps.toList))
        | _ => none
      | _ => none
    | _ => none
def fIn (n : Bool) (a b : O) (ρ : Ev) : R O := match viewO a with
  | some d => match viewO b with
    | some e => match inU d e with
      | some k => .ok (.sh (.bool (n ^^ k))) ρ
      | none => .bad
    | none => .bad
  | none => .bad
theorem sv_in {n : Bool} : Serves K c g W (rInP K n) (fIn n) := by
  intro ρ σ F H E T Sa Sb x y oa ob Q M ra rb _ _ h
  unfold fIn at h
  cases e1 : viewO oa with
  | none => rw [e1] at h; exact h.elim
  | some d =>
    rw [e1] at h
    simp only at h
    cases e2 : viewO ob with
    | none => rw [e2] at h; exact h.elim
    | some e =>
      rw [e2] at h
      simp only at h
      cases e3 : inU d e with
      | none => rw [e3] at h; exact h.elim
      | some k =>
        rw [e3] at h
        have hd := view_ok M ra e1
        have he := view_ok M rb e2
        have q : Q (.bl (n ^^ k)) H := h.sc M (.bl _)
        unfold inU at e3
        cases e4 : seqU e with
        | some ds =>
          rw [e4] at e3
          simp only at e3
          split at e3
          · cases e3
            refine .inl ⟨d, ds, hd, ?_, by assumption, q⟩
            cases e <;> simp [seqU] at e4
            · subst e4; exact .inl he
            · subst e4; exact .inr he
          · cases e3
        | none =>
          rw [e4] at e3
          simp only at e3
          cases d with
          | str x' =>
            cases e with
            | str z =>
              simp only at e3
              split at e3
              · rename_i k' ek
                cases e3
                cases hd
                cases he
                refine .inr ⟨k', z, ?_, rfl, q⟩
                obtain ⟨arr⟩ := x'
                have : arr = #[k'] := by rw [← Array.toList_inj]; simpa using ek
                subst this
                rfl
              · cases e3
            | _ => simp at e3
          | _ => simp at e3

def at' {α : Type} (xs : List α) (i : Int) : Option α := if 0 ≤ i then xs[i.toNat]? else if -(xs.length : Int) ≤ i then xs[(i + xs.length).toNat]? else none
theorem at_at {α : Type} {xs : List α} {i : Int} {x : α} (h : at' xs i = some x) : atI xs i = some x := by
  unfold at' at h
  unfold atI ixN
  split at h
  · rename_i hi
    rw [if_pos hi]
    have hl : i.toNat < xs.length := by
      rcases Nat.lt_or_ge i.toNat xs.length with z | z
      · exact z
      · rw [List.getElem?_eq_none z] at h; cases h
    rw [if_pos (by omega)]
    exact h
  · rename_i hi
    rw [if_neg hi]
    split at h
    · rename_i hl
      rw [if_pos hl]
      exact h
    · cases h
theorem at_get {α : Type} {xs : List α} {i : Int} {x : α} (h : at' xs i = some x) : ∃ j : Nat, xs[j]? = some x ∧ ∀ {β : Type} (ys : List β), ys.length = xs.length → at' ys i = ys[j]? := by
  unfold at' at h
  split at h
  · rename_i hi
    exact ⟨_, h, fun ys _ => by unfold at'; rw [if_pos hi]⟩
  · rename_i hi
    split at h
    · rename_i hl
      exact ⟨_, h, fun ys e => by unfold at'; rw [if_neg hi, e, if_pos hl]⟩
    · cases h
def shE : Option O → Option U
  | some (.sh u) => some u
  | _ => none
def atO (a : O) (i : Int) : Option U := match a with
  | .sh (.list us) => at' us i
  | .sh (.tuple us) => at' us i
  | .sh (.str z) => if z.length ≤ 16777216 then (match at' z.cps.toList i with
    | some k => some (.str ⟨#[k]⟩)
    | none => none) else none
  | .ol os => shE (at' os i)
  | .ot os => shE (at' os i)
  | .sc us => at' us i
  | _ => none
def fIdx (a b : O) (ρ : Ev) : R O := match intE b with
  | some i => match atO a i with
    | some u => .ok (.sh u) ρ
    | none => .bad
  | none => .bad
theorem RpOs.at {F H : Hp} : ∀ {vs : List V} {os : List O} {S : Addr → Prop} {j : Nat} {o : O}, RpOs K F H vs os S → os[j]? = some o → ∃ v S', vs[j]? = some v ∧ RpO K F H v o S' ∧ ∀ a, S' a → S a
  | _, _, _, _, _, .nil, e => by simp at e
  | _, _, _, 0, _, .cons r rs s1 s2 d, e => by simp at e; subst e; exact ⟨_, _, rfl, r, s1⟩
  | _, _, _, j + 1, o, .cons r rs s1 s2 d, e => by
    obtain ⟨v, S', h1, h2, h3⟩ := RpOs.at (j := j) (o := o) rs (by simpa using e)
    exact ⟨v, S', by simpa using h1, h2, fun a x => s2 a (h3 a x)⟩
theorem RpOs.len {F H : Hp} : ∀ {vs : List V} {os : List O} {S : Addr → Prop}, RpOs K F H vs os S → vs.length = os.length
  | _, _, _, .nil => rfl
  | _, _, _, .cons _ rs _ _ _ => by simp [RpOs.len rs]
theorem shE_ok {x : Option O} {u : U} (h : shE x = some u) : x = some (.sh u) := by
  unfold shE at h
  split at h
  · cases h; rfl
  · cases h
theorem sv_idx : Serves K c g W (rIx K) fIdx := by
  intro ρ σ F H E T Sa Sb x y oa ob Q M ra rb _ _ h
  unfold fIdx at h
  cases e1 : intE ob with
  | none => rw [e1] at h; exact h.elim
  | some i =>
    rw [e1] at h
    simp only at h
    cases e2 : atO oa i with
    | none => rw [e2] at h; exact h.elim
    | some u =>
      rw [e2] at h
      have ey := intE_ok rb e1
      subst ey
      have own : ∀ {os : List O} {vs : List V} {S : Addr → Prop}, RpOs K F H vs os S → shE (at' os i) = some u → ∃ v, atI vs i = some v ∧ Dq K F v u := fun r e => by
        have e := shE_ok e
        obtain ⟨j, h1, h2⟩ := at_get e
        obtain ⟨v, S', a1, a2, _⟩ := r.at h1
        cases a2 with
        | sh d => exact ⟨v, at_at (by rw [h2 _ r.len]; exact a1), d⟩
      have shr : ∀ {us : List U} {vs : List V}, DqAll K F vs us → at' us i = some u → ∃ v, atI vs i = some v ∧ Dq K F v u := fun d e => by
        obtain ⟨j, h1, h2⟩ := at_get e
        obtain ⟨v, a1, a2⟩ := d.get h1
        exact ⟨v, at_at (by rw [h2 _ d.len]; exact a1), a2⟩
      cases oa with
      | sh w =>
        cases w with
        | list us =>
          cases ra with
          | sh d => cases d with
            | lst hp ha =>
              obtain ⟨v, a1, a2⟩ := shr ha e2
              exact .inl ⟨_, _, i, v, rfl, rfl, .inl (Rd.mono M.ff (.inl hp)), a1, h.sc M a2⟩
        | tuple us =>
          cases ra with
          | sh d => cases d with
            | tup hp ha =>
              obtain ⟨v, a1, a2⟩ := shr ha e2
              exact .inr (.inl ⟨_, _, i, v, rfl, rfl, SqT.mono M.ff hp, a1, h.sc M a2⟩)
        | str z =>
          cases ra with
          | sh d =>
            cases d
            simp only [atO] at e2
            split at e2
            · split at e2
              · rename_i hz k e3
                cases e2
                exact .inr (.inr ⟨z, i, k, rfl, rfl, by rw [line_eq]; assumption, at_at e3, h.sc M (.str _)⟩)
              · cases e2
            · cases e2
        | _ => simp [atO] at e2
      | ol os =>
        cases ra with
        | ol hp _ r _ _ =>
          obtain ⟨v, a1, a2⟩ := own r e2
          exact .inl ⟨_, _, i, v, rfl, rfl, .inl (.inl hp), a1, h.sc M a2⟩
      | ot os =>
        cases ra with
        | ot hp _ r _ _ =>
          obtain ⟨v, a1, a2⟩ := own r e2
          exact .inr (.inl ⟨_, _, i, v, rfl, rfl, .inl (.inl hp), a1, h.sc M a2⟩)
      | od os => simp [atO] at e2
      | nd os => simp [atO] at e2
      | nf os => simp [atO] at e2
      | ins _ _ => simp [atO] at e2
      | fi _ _ => simp [atO] at e2
      | dl _ _ => simp [atO] at e2
      | df _ => simp [atO] at e2
      | sc us =>
        cases ra with
        | sc hp ha =>
          obtain ⟨v, a1, a2⟩ := shr ha e2
          exact .inl ⟨_, _, i, v, rfl, rfl, M.ff.seq hp, a1, h.sc M a2⟩
end
section
variable {X : Cx} {c : Cc} {W : WX} {e e1 e2 : Expr} {a b : Ag} {pos : Pos}
theorem x_idx (ha : PX X c W e1 a) (hb : PX X c W e2 b) (hs : PlainIx e2 := by intro _ _; rfl) : PM X c W (.Subscript e1 e2 pos) (mBin fIdx a b) :=
  pe_conv (pe_ix ix_seq ha hb hs) fun σ H Q h => conv_bin sv_idx σ H Q h
end
end MM
namespace MM
open PySem L2

section
variable {K : PySem.W.Frag} {c : Cc} {g : Str → Option Value} {W : WX} {ρ : Ev} {σ : St} {F H : Hp} {E T : Addr → Prop}
def evB : Option Ag → Ev → R (Option Int)
  | none, ρ => .ok none ρ
  | some a, ρ => match evA a ρ with
    | .ok d ρ1 => match oOf ρ1 d with
      | some o => match intE o with
        | some i => .ok (some i) ρ1
        | none => .bad
      | none => .bad
    | .exc cl ρ1 => .exc cl ρ1
    | .bad => .bad
abbrev relP : Hp → Hp → Option Int → Option Int → (Addr → Prop) → Prop := fun _ _ b x _ => b = x
def tMP (K : PySem.W.Frag) (c : Cc) (g : Str → Option Value) (W : WX) (b : Option Ag) : TO := fun σ H Q => ∃ ρ F E T, MI K c ρ σ F H E T ∧ Got K c g W relP σ F H T Q (evB b ρ)
theorem conv_part {a : Ag} (σ : St) (H : Hp) (Q : Option Int → Hp → Prop) (h : tMP K c g W (some a) σ H Q) : tPart (tAg K c g W a) σ H Q := by
  obtain ⟨ρ, F, E, T, M, h⟩ := h
  refine run_ag M ?_
  simp only [evB] at h
  cases e1 : evA a ρ with
  | exc cl ρ1 => rw [e1] at h; exact h
  | bad => rw [e1] at h; exact h.elim
  | ok d ρ1 =>
    rw [e1] at h
    simp only at h
    intro x F1 H1 E1 S1 f1 k1 M1 d1 r1
    cases e2 : oOf ρ1 d with
    | none => rw [e2] at h; exact h.elim
    | some o =>
      rw [e2] at h
      simp only at h
      cases e3 : intE o with
      | none => rw [e3] at h; exact h.elim
      | some i =>
        rw [e3] at h
        obtain ⟨S', r', _⟩ := r1.rp M1 (fun a x => .inr x) e2
        exact ⟨i, intE_ok r' e3, h (some i) F1 H1 E1 S1 f1 k1 M1 d1 rfl⟩
theorem conv_nopart (σ : St) (H : Hp) (Q : Option Int → Hp → Prop) (h : tMP K c g W none σ H Q) : tNoPart σ H Q := by
  obtain ⟨ρ, F, E, T, M, h⟩ := h
  exact h none F H E Em (Same.refl F) (fun _ _ => rfl) M.em (fun _ _ x => x) rfl
def cutU {α : Type} (us : List α) (lo hi : Option Int) : List α := (us.drop (HT.sIx us.length 0 lo)).take (HT.sIx us.length us.length hi - HT.sIx us.length 0 lo)
def fSl (lo hi : Option Int) (a : O) (ρ : Ev) : R O := match lstE a with
  | some us => .ok (.ol (shs (cutU us lo hi))) ρ
  | none => match tupS a with
    | some us => .ok (.sh (.tuple (cutU us lo hi))) ρ
    | none => match strE a with
      | some z => if z.length ≤ 16777216 then .ok (.sh (.str (cutS z lo hi))) ρ else .bad
      | none => .bad
def mSl (a : Ag) (lo hi : Option Ag) : ME := fun ρ => match evA a ρ with
  | .ok d ρ1 => match evB lo ρ1 with
    | .ok l ρ2 => match evB hi ρ2 with
      | .ok u ρ3 => match oOf ρ3 d with
        | some o => fSl l u o ρ3
        | none => .bad
      | .exc cl r => .exc cl r
      | .bad => .bad
    | .exc cl r => .exc cl r
    | .bad => .bad
  | .exc cl r => .exc cl r
  | .bad => .bad
abbrev rSlQ (K : PySem.W.Frag) : V → Option Int → Option Int → Hp → VK → Prop := fun x lo hi H Q => rSlL K x lo hi H Q ∨ (rSlA K x lo hi H Q ∨ rSlS x lo hi H Q)
theorem sl_Q {X : Cx} : SlR X (rSlQ X.K) := sl_list.or (sl_tupA.or sl_str)
theorem cut_ok {vs : List V} {us : List U} (d : DqAll K F vs us) (lo hi : Option Int) : DqAll K F (cutV vs lo hi) (cutU us lo hi) := by
  unfold cutV cutU
  rw [d.len]
  exact (d.drop _).take _
theorem cut_all {vs : List V} {us : List U} (lo hi : Option Int) (h : HT.sIx us.length 0 lo = 0 ∧ HT.sIx us.length us.length hi = us.length) : cutU us lo hi = us := by
  unfold cutU
  rw [h.1, h.2, List.drop_zero, Nat.sub_zero, List.take_length]
theorem conv_sl {a : Ag} {lo hi : Option Ag} {tl th : TO} (hl : ∀ σ H Q, tMP K c g W lo σ H Q → tl σ H Q) (hh : ∀ σ H Q, tMP K c g W hi σ H Q → th σ H Q) (σ : St) (H : Hp) (Q : VK) (h : tM K c g W (mSl a lo hi) σ H Q) : tSl (rSlQ K) (tAg K c g W a) tl th σ H Q := by
  obtain ⟨ρ, F, E, T, M, h⟩ := h
  unfold mSl at h
  refine run_ag M ?_
  cases e1 : evA a ρ with
  | exc cl ρ1 => rw [e1] at h; exact h
  | bad => rw [e1] at h; exact h
  | ok d ρ1 =>
    rw [e1] at h
    simp only at h
    intro x F1 H1 E1 S1 f1 k1 M1 d1 r1
    refine hl _ _ _ ⟨ρ1, F1, E1, _, M1, ?_⟩
    cases e2 : evB lo ρ1 with
    | exc cl ρ2 => rw [e2] at h; exact exU f1 h
    | bad => rw [e2] at h; exact h
    | ok l ρ2 =>
      rw [e2] at h
      simp only at h
      intro l' F2 H2 E2 S2 f2 k2 M2 d2 rl
      subst rl
      refine hh _ _ _ ⟨ρ2, F2, E2, _, M2, ?_⟩
      cases e3 : evB hi ρ2 with
      | exc cl ρ3 => rw [e3] at h; exact exU (f1.trans f2) h
      | bad => rw [e3] at h; exact h
      | ok u ρ3 =>
        rw [e3] at h
        simp only at h
        intro u' F3 H3 E3 S3 f3 k3 M3 d3 ru
        subst ru
        cases e4 : oOf ρ3 d with
        | none => rw [e4] at h; exact h.elim
        | some o =>
          rw [e4] at h
          simp only at h
          obtain ⟨Sa, ra, _⟩ := ((r1.frame f2 fun a x => k2 a (.inr x)).frame f3 fun a x => k3 a (.inl (.inr x))).rp M3 (fun a x => .inl (.inl (.inr x))) e4
          have h := Got.weak h (f1.trans (f2.trans f3)) (fun a x => (k3 a (.inl (.inl x))).trans ((k2 a (.inl x)).trans (k1 a x))) (T1 := fun a => ((T a ∨ S1 a) ∨ S2 a) ∨ S3 a) (fun a x => .inl (.inl (.inl x))) relO_mono
          unfold fSl at h
          cases e5 : lstE o with
          | some us =>
            rw [e5] at h
            obtain ⟨p, vs, rfl, hp, da⟩ := lstE_ok M3.ff ra e5
            exact .inl ⟨p, vs, rfl, .inl hp, fun q hq => got_list h M3 hq (cut_ok da _ _)⟩
          | none =>
            rw [e5] at h
            simp only at h
            cases e6 : tupS o with
            | some us =>
              rw [e6] at h
              obtain ⟨p, vs, rfl, hp, da⟩ := tupS_ok ra e6
              refine .inr (.inl ⟨p, vs, rfl, SqT.mono M3.ff hp, fun w => ?_, fun w q hq => got_tup h M3 hq (cut_ok da _ _)⟩)
              rw [da.len] at w
              simp only at h
              rw [cut_all (vs := vs) _ _ w] at h
              exact h.sc M3 (.tup hp da)
            | none =>
              rw [e6] at h
              simp only at h
              cases e7 : strE o with
              | none => rw [e7] at h; exact h.elim
              | some z =>
                rw [e7] at h
                simp only at h
                split at h
                · exact .inr (.inr ⟨z, strE_ok ra e7, by rw [line_eq]; assumption, h.sc M3 (.str _)⟩)
                · exact h.elim

def osOf : List Dn → Option (List O)
  | [] => some []
  | .o x :: ds => match osOf ds with
    | some os => some (x :: os)
    | none => none
  | .v _ :: _ => none
theorem osOf_ok : ∀ {ds : List Dn} {vs : List V} {os : List O} {S : Addr → Prop}, DnRs K σ F H vs ds S → osOf ds = some os → RpOs K F H vs os S
  | [], _, _, _, r, e => by cases r; cases e; exact .nil
  | .o x :: ds, _, _, _, r, e => by
    cases r with
    | cons r rs s1 s2 d =>
      simp only [osOf] at e
      cases q : osOf ds with
      | none => rw [q] at e; cases e
      | some os =>
        rw [q] at e
        cases e
        exact .cons r (osOf_ok rs q) s1 s2 d
  | .v i :: ds, _, _, _, r, e => by cases e
theorem DnRs.len : ∀ {vs : List V} {ds : List Dn} {S : Addr → Prop}, DnRs K σ F H vs ds S → vs.length = ds.length
  | _, _, _, .nil => rfl
  | _, _, _, .cons _ r _ _ _ => by simp [DnRs.len r]
def mLst (as : List Ag) : ME := fun ρ => match evAs as ρ with
  | .ok ds ρ1 => match osOf ds with
    | some os => if os.length ≤ 16777216 then .ok (.ol os) ρ1 else .bad
    | none => .bad
  | .exc cl r => .exc cl r
  | .bad => .bad
def mTup (as : List Ag) : ME := fun ρ => match evAs as ρ with
  | .ok ds ρ1 => match osOf ds with
    | some os => if os.length ≤ 16777216 then (match allSh os with
      | some us => .ok (.sh (.tuple us)) ρ1
      | none => .ok (.ot os) ρ1) else .bad
    | none => .bad
  | .exc cl r => .exc cl r
  | .bad => .bad
theorem conv_lst {as : List Ag} (σ : St) (H : Hp) (Q : VK) (h : tM K c g W (mLst as) σ H Q) : tLst (tMA K c g W as) σ H Q := by
  obtain ⟨ρ, F, E, T, M, h⟩ := h
  unfold mLst at h
  refine ⟨ρ, F, E, T, M, ?_⟩
  cases e1 : evAs as ρ with
  | exc cl ρ1 => rw [e1] at h; exact h
  | bad => rw [e1] at h; exact h
  | ok ds ρ1 =>
    rw [e1] at h
    simp only at h
    intro vs F1 H1 E1 S1 f1 k1 M1 d1 r1
    cases e2 : osOf ds with
    | none => rw [e2] at h; exact h.elim
    | some os =>
      rw [e2] at h
      simp only at h
      split at h
      · rename_i hz
        have r := osOf_ok r1 e2
        refine ⟨by rw [r.len, line_eq]; exact hz, fun p hp => ?_⟩
        have hT : ∀ a, T a → a ≠ p := fun a x z => by subst z; exact (M1.own _ (.inr (.inl x))).2.1 hp
        have hS : ¬ S1 p := fun x => (M1.own _ (.inr (.inr x))).2.1 hp
        refine h (.ref p) F1 _ E1 (fun a => S1 a ∨ a = p) f1 (fun a x => by rw [upd_ne (hT a x)]; exact k1 a x) ((M1.new hp).less fun a x => ?_) (fun a x y => ?_) (.ol upd_same (.inr rfl) (r.frame (Same.refl F1) fun a x => upd_ne fun z => hS (z ▸ x)) (fun a x => .inl x) hS)
        · rcases x with x | x | x
          · exact .inl (.inl x)
          · exact .inl (.inr x)
          · exact .inr x
        · rcases y with y | y
          · exact d1 a x y
          · exact hT a x y
      · exact h.elim
theorem conv_tup {as : List Ag} (σ : St) (H : Hp) (Q : VK) (h : tM K c g W (mTup as) σ H Q) : tTup (tMA K c g W as) σ H Q := by
  obtain ⟨ρ, F, E, T, M, h⟩ := h
  unfold mTup at h
  refine ⟨ρ, F, E, T, M, ?_⟩
  cases e1 : evAs as ρ with
  | exc cl ρ1 => rw [e1] at h; exact h
  | bad => rw [e1] at h; exact h
  | ok ds ρ1 =>
    rw [e1] at h
    simp only at h
    intro vs F1 H1 E1 S1 f1 k1 M1 d1 r1
    cases e2 : osOf ds with
    | none => rw [e2] at h; exact h.elim
    | some os =>
      rw [e2] at h
      simp only at h
      split at h
      · rename_i hz
        have r := osOf_ok r1 e2
        refine ⟨by rw [r.len, line_eq]; exact hz, fun p hp => ?_⟩
        have hT : ∀ a, T a → a ≠ p := fun a x z => by subst z; exact (M1.own _ (.inr (.inl x))).2.1 hp
        have hS : ¬ S1 p := fun x => (M1.own _ (.inr (.inr x))).2.1 hp
        cases e3 : allSh os with
        | some us =>
          rw [e3] at h
          simp only at h
          have h : Got K c g W (relO K) σ F1 H1 T Q (.ok (.sh (.tuple us)) ρ1) := h.weak f1 k1 (fun a x => x) relO_mono
          exact got_tup h (M1.less fun a x => .inl x) hp (allSh_ok r e3)
        | none =>
          rw [e3] at h
          simp only at h
          refine h (.ref p) F1 _ E1 (fun a => S1 a ∨ a = p) f1 (fun a x => by rw [upd_ne (hT a x)]; exact k1 a x) ((M1.new hp).less fun a x => ?_) (fun a x y => ?_) (.ot upd_same (.inr rfl) (r.frame (Same.refl F1) fun a x => upd_ne fun z => hS (z ▸ x)) (fun a x => .inl x) hS)
          · rcases x with x | x | x
            · exact .inl (.inl x)
            · exact .inl (.inr x)
            · exact .inr x
          · rcases y with y | y
            · exact d1 a x y
            · exact hT a x y
      · exact h.elim

def truU : U → Option Bool
  | .none => some false
  | .bool b => some b
  | .int i => some (i != 0)
  | .str x => if x.length ≤ 16777216 then some ((x.length : Int) != 0) else none
  | .list us => some (!us.isEmpty)
  | .tuple us => some (!us.isEmpty)
  | .dict _ => none
def truO : O → Option Bool
  | .sh u => truU u
  | .ol os => some (!os.isEmpty)
  | .ot os => some (!os.isEmpty)
  | .od _ => none
  | .nd _ => none
  | .nf _ => none
  | .ins _ _ => none
  | .fi _ _ => none
  | .dl _ _ => none
  | .df _ => none
  | .sc us => some (!us.isEmpty)
def mTru (a : Ag) : Ev → R Bool := fun ρ => match evA a ρ with
  | .ok d ρ1 => match oOf ρ1 d with
    | some o => match truO o with
      | some k => .ok k ρ1
      | none => .bad
    | none => .bad
  | .exc cl r => .exc cl r
  | .bad => .bad
theorem empty_len {α β : Type} {xs : List α} {ys : List β} (h : xs.length = ys.length) : xs.isEmpty = ys.isEmpty := by
  cases xs <;> cases ys <;> simp_all
theorem truO_ok {S : Addr → Prop} {v : V} {o : O} {k : Bool} (hF : Same F H) (r : RpO K F H v o S) (e : truO o = some k) : TruV K v H k := by
  cases r with
  | sh d =>
    cases d with
    | non => cases e; rfl
    | bl b => cases e; rfl
    | int i => cases e; rfl
    | str x =>
      simp only [truO, truU] at e
      split at e
      · cases e; exact ⟨by rw [line_eq]; assumption, rfl⟩
      · cases e
    | lst h a => cases e; exact .inl ⟨_, .inl (Rd.mono hF (.inl h)), by rw [empty_len a.len]⟩
    | tup h a => cases e; exact .inr (.inl ⟨_, SqT.mono hF h, by rw [empty_len a.len]⟩)
  | ol h _ r _ _ => cases e; exact .inl ⟨_, .inl (.inl h), by rw [empty_len r.len]⟩
  | ot h _ r _ _ => cases e; exact .inr (.inl ⟨_, .inl (.inl h), by rw [empty_len r.len]⟩)
  | sc h a => cases e; exact .inl ⟨_, hF.seq h, by rw [empty_len a.len]⟩
  | od _ _ => simp [truO] at e
  | nd _ _ _ _ => simp [truO] at e
  | nf _ _ _ _ => simp [truO] at e
  | ins _ _ _ _ _ _ => simp [truO] at e
  | fi _ _ _ => simp [truO] at e
  | dl _ _ _ _ _ _ => simp [truO] at e
  | df _ => simp [truO] at e
theorem conv_tru {a : Ag} (σ : St) (H : Hp) (Q : Bool → Hp → Prop) (h : tMT K c g W (mTru a) σ H Q) : tAg K c g W a σ H fun x H' => ∃ k, TruV K x H' k ∧ Q k H' := by
  obtain ⟨ρ, F, E, T, M, h⟩ := h
  unfold mTru at h
  refine run_ag M ?_
  cases e1 : evA a ρ with
  | exc cl ρ1 => rw [e1] at h; exact h
  | bad => rw [e1] at h; exact h
  | ok d ρ1 =>
    rw [e1] at h
    simp only at h
    intro x F1 H1 E1 S1 f1 k1 M1 d1 r1
    cases e2 : oOf ρ1 d with
    | none => rw [e2] at h; exact h.elim
    | some o =>
      rw [e2] at h
      simp only at h
      cases e3 : truO o with
      | none => rw [e3] at h; exact h.elim
      | some k =>
        rw [e3] at h
        obtain ⟨S', r', _⟩ := r1.rp M1 (fun a x => .inr x) e2
        exact ⟨k, truO_ok M1.ff r' e3, h k F1 H1 E1 S1 f1 k1 M1 d1 rfl⟩
def asB (m : ME) : Ev → R Bool := fun ρ => match m ρ with
  | .ok o ρ1 => match blE o with
    | some k => .ok k ρ1
    | none => .bad
  | .exc cl r => .exc cl r
  | .bad => .bad
theorem conv_asB {m : ME} (σ : St) (H : Hp) (Q : Bool → Hp → Prop) (h : tMT K c g W (asB m) σ H Q) : tM K c g W m σ H fun x H' => ∃ k, x = .bl k ∧ Q k H' := by
  obtain ⟨ρ, F, E, T, M, h⟩ := h
  unfold asB at h
  refine ⟨ρ, F, E, T, M, ?_⟩
  cases e1 : m ρ with
  | exc cl ρ1 => rw [e1] at h; exact h
  | bad => rw [e1] at h; exact h
  | ok o ρ1 =>
    rw [e1] at h
    simp only at h
    intro x F1 H1 E1 S1 f1 k1 M1 d1 r1
    cases e2 : blE o with
    | none => rw [e2] at h; exact h.elim
    | some k =>
      rw [e2] at h
      exact ⟨k, blE_ok r1 e2, h k F1 H1 E1 S1 f1 k1 M1 d1 rfl⟩
def bAnd (m n : Ev → R Bool) : Ev → R Bool := fun ρ => match m ρ with
  | .ok true ρ1 => n ρ1
  | .ok false ρ1 => .ok false ρ1
  | .exc cl r => .exc cl r
  | .bad => .bad
def bOr (m n : Ev → R Bool) : Ev → R Bool := fun ρ => match m ρ with
  | .ok true ρ1 => .ok true ρ1
  | .ok false ρ1 => n ρ1
  | .exc cl r => .exc cl r
  | .bad => .bad
def bNot (m : Ev → R Bool) : Ev → R Bool := fun ρ => match m ρ with
  | .ok k ρ1 => .ok (!k) ρ1
  | .exc cl r => .exc cl r
  | .bad => .bad
theorem relB_mono : ∀ (F H : Hp) (b x : Bool) (S S' : Addr → Prop), relB F H b x S → (∀ a, S a → S' a) → relB F H b x S' := fun _ _ _ _ _ _ r _ => r
theorem conv_and {m n : Ev → R Bool} (σ : St) (H : Hp) (Q : Bool → Hp → Prop) (h : tMT K c g W (bAnd m n) σ H Q) : tAnd (tMT K c g W m) (tMT K c g W n) σ H Q := by
  obtain ⟨ρ, F, E, T, M, h⟩ := h
  unfold bAnd at h
  refine ⟨ρ, F, E, T, M, ?_⟩
  cases e1 : m ρ with
  | exc cl ρ1 => rw [e1] at h; exact h
  | bad => rw [e1] at h; exact h
  | ok k ρ1 =>
    rw [e1] at h
    intro k' F1 H1 E1 S1 f1 k1 M1 d1 r1
    cases r1
    cases k with
    | true =>
      rw [if_pos rfl]
      exact ⟨ρ1, F1, E1, _, M1, h.weak f1 k1 (fun a x => .inl x) relB_mono⟩
    | false =>
      rw [if_neg Bool.false_ne_true]
      exact h false F1 H1 E1 S1 f1 k1 M1 d1 rfl
theorem conv_or {m n : Ev → R Bool} (σ : St) (H : Hp) (Q : Bool → Hp → Prop) (h : tMT K c g W (bOr m n) σ H Q) : tOr (tMT K c g W m) (tMT K c g W n) σ H Q := by
  obtain ⟨ρ, F, E, T, M, h⟩ := h
  unfold bOr at h
  refine ⟨ρ, F, E, T, M, ?_⟩
  cases e1 : m ρ with
  | exc cl ρ1 => rw [e1] at h; exact h
  | bad => rw [e1] at h; exact h
  | ok k ρ1 =>
    rw [e1] at h
    intro k' F1 H1 E1 S1 f1 k1 M1 d1 r1
    cases r1
    cases k with
    | true =>
      rw [if_pos rfl]
      exact h true F1 H1 E1 S1 f1 k1 M1 d1 rfl
    | false =>
      rw [if_neg Bool.false_ne_true]
      exact ⟨ρ1, F1, E1, _, M1, h.weak f1 k1 (fun a x => .inl x) relB_mono⟩
theorem conv_not {m : Ev → R Bool} (σ : St) (H : Hp) (Q : Bool → Hp → Prop) (h : tMT K c g W (bNot m) σ H Q) : tNot (tMT K c g W m) σ H Q := by
  obtain ⟨ρ, F, E, T, M, h⟩ := h
  unfold bNot at h
  refine ⟨ρ, F, E, T, M, ?_⟩
  cases e1 : m ρ with
  | exc cl ρ1 => rw [e1] at h; exact h
  | bad => rw [e1] at h; exact h
  | ok k ρ1 =>
    rw [e1] at h
    intro k' F1 H1 E1 S1 f1 k1 M1 d1 r1
    cases r1
    exact h _ F1 H1 E1 S1 f1 k1 M1 d1 rfl
def vAnd (m n : ME) : ME := fun ρ => match m ρ with
  | .ok o ρ1 => match blE o with
    | some true => n ρ1
    | some false => .ok (.sh (.bool false)) ρ1
    | none => .bad
  | .exc cl r => .exc cl r
  | .bad => .bad
def vOr (m n : ME) : ME := fun ρ => match m ρ with
  | .ok o ρ1 => match blE o with
    | some true => .ok (.sh (.bool true)) ρ1
    | some false => n ρ1
    | none => .bad
  | .exc cl r => .exc cl r
  | .bad => .bad
def vNot (m : ME) : ME := fun ρ => match m ρ with
  | .ok o ρ1 => match blE o with
    | some k => .ok (.sh (.bool (!k))) ρ1
    | none => .bad
  | .exc cl r => .exc cl r
  | .bad => .bad
theorem conv_vand {m n : ME} (σ : St) (H : Hp) (Q : VK) (h : tM K c g W (vAnd m n) σ H Q) : tAndV (tM K c g W m) (tM K c g W n) σ H Q := by
  obtain ⟨ρ, F, E, T, M, h⟩ := h
  unfold vAnd at h
  refine ⟨ρ, F, E, T, M, ?_⟩
  cases e1 : m ρ with
  | exc cl ρ1 => rw [e1] at h; exact h
  | bad => rw [e1] at h; exact h
  | ok o ρ1 =>
    rw [e1] at h
    simp only at h
    intro x F1 H1 E1 S1 f1 k1 M1 d1 r1
    cases e2 : blE o with
    | none => rw [e2] at h; exact h.elim
    | some k =>
      rw [e2] at h
      refine ⟨k, blE_ok r1 e2, ?_⟩
      have hw := Got.weak h f1 k1 (T1 := fun a => T a ∨ S1 a) (fun a x => .inl x) relO_mono
      cases k with
      | true => rw [if_pos rfl]; exact ⟨ρ1, F1, E1, _, M1, hw⟩
      | false => rw [if_neg Bool.false_ne_true]; exact hw.sc M1 (.bl false)
theorem conv_vor {m n : ME} (σ : St) (H : Hp) (Q : VK) (h : tM K c g W (vOr m n) σ H Q) : tOrV (tM K c g W m) (tM K c g W n) σ H Q := by
  obtain ⟨ρ, F, E, T, M, h⟩ := h
  unfold vOr at h
  refine ⟨ρ, F, E, T, M, ?_⟩
  cases e1 : m ρ with
  | exc cl ρ1 => rw [e1] at h; exact h
  | bad => rw [e1] at h; exact h
  | ok o ρ1 =>
    rw [e1] at h
    simp only at h
    intro x F1 H1 E1 S1 f1 k1 M1 d1 r1
    cases e2 : blE o with
    | none => rw [e2] at h; exact h.elim
    | some k =>
      rw [e2] at h
      refine ⟨k, blE_ok r1 e2, ?_⟩
      have hw := Got.weak h f1 k1 (T1 := fun a => T a ∨ S1 a) (fun a x => .inl x) relO_mono
      cases k with
      | true => rw [if_pos rfl]; exact hw.sc M1 (.bl true)
      | false => rw [if_neg Bool.false_ne_true]; exact ⟨ρ1, F1, E1, _, M1, hw⟩
theorem conv_vnot {m : ME} (σ : St) (H : Hp) (Q : VK) (h : tM K c g W (vNot m) σ H Q) : tNotV (tM K c g W m) σ H Q := by
  obtain ⟨ρ, F, E, T, M, h⟩ := h
  unfold vNot at h
  refine ⟨ρ, F, E, T, M, ?_⟩
  cases e1 : m ρ with
  | exc cl ρ1 => rw [e1] at h; exact h
  | bad => rw [e1] at h; exact h
  | ok o ρ1 =>
    rw [e1] at h
    simp only at h
    intro x F1 H1 E1 S1 f1 k1 M1 d1 r1
    cases e2 : blE o with
    | none => rw [e2] at h; exact h.elim
    | some k =>
      rw [e2] at h
      have hw := Got.weak h f1 k1 (T1 := fun a => T a ∨ S1 a) (fun a x => .inl x) relO_mono
      exact ⟨k, blE_ok r1 e2, hw.sc M1 (.bl _)⟩
def mIf (t : Ev → R Bool) (m n : ME) : ME := fun ρ => match t ρ with
  | .ok true ρ1 => m ρ1
  | .ok false ρ1 => n ρ1
  | .exc cl r => .exc cl r
  | .bad => .bad
def mChain (fo fo' : O → O → Ev → R O) (a b d : Ag) : ME := fun ρ => match evA a ρ with
  | .ok da ρ1 => match evA b ρ1 with
    | .ok db ρ2 => match oOf ρ2 da with
      | some oa => match oOf ρ2 db with
        | some ob => match fo oa ob ρ2 with
          | .ok z ρ3 => match blE z with
            | some true => match evA d ρ3 with
              | .ok dd ρ4 => match oOf ρ4 db with
                | some ob' => match oOf ρ4 dd with
                  | some od => fo' ob' od ρ4
                  | none => .bad
                | none => .bad
              | .exc cl r => .exc cl r
              | .bad => .bad
            | some false => .ok (.sh (.bool false)) ρ3
            | none => .bad
          | .exc cl r => .exc cl r
          | .bad => .bad
        | none => .bad
      | none => .bad
    | .exc cl r => .exc cl r
    | .bad => .bad
  | .exc cl r => .exc cl r
  | .bad => .bad
theorem conv_chain {r r' : R2} {fo fo' : O → O → Ev → R O} {a b d : Ag} (sv : Serves K c g W r fo) (sv' : Serves K c g W r' fo') (σ : St) (H : Hp) (Q : VK) (h : tM K c g W (mChain fo fo' a b d) σ H Q) : tChain r r' (tAg K c g W a) (tAg K c g W b) (tAg K c g W d) σ H Q := by
  obtain ⟨ρ, F, E, T, M, h⟩ := h
  unfold mChain at h
  refine run_ag M ?_
  cases e1 : evA a ρ with
  | exc cl ρ1 => rw [e1] at h; exact h
  | bad => rw [e1] at h; exact h
  | ok da ρ1 =>
    rw [e1] at h
    intro x F1 H1 E1 S1 f1 k1 M1 d1 r1
    refine run_ag M1 ?_
    simp only at h
    cases e2 : evA b ρ1 with
    | exc cl ρ2 => rw [e2] at h; exact exU f1 h
    | bad => rw [e2] at h; exact h
    | ok db ρ2 =>
      rw [e2] at h
      intro y F2 H2 E2 S2 f2 k2 M2 d2 r2
      simp only at h
      cases e3 : oOf ρ2 da with
      | none => rw [e3] at h; exact h.elim
      | some oa =>
        rw [e3] at h
        simp only at h
        cases e4 : oOf ρ2 db with
        | none => rw [e4] at h; exact h.elim
        | some ob =>
          rw [e4] at h
          simp only at h
          obtain ⟨Sa, ra, ha⟩ := (r1.frame f2 fun a x => k2 a (.inr x)).rp M2 (fun a x => .inl (.inr x)) e3
          obtain ⟨Sb, rb, hb⟩ := r2.rp M2 (fun a x => .inr x) e4
          refine sv ρ2 σ F2 H2 E2 _ Sa Sb x y oa ob _ M2 ra rb ha hb ?_
          cases e5 : fo oa ob ρ2 with
          | exc cl ρ3 => rw [e5] at h; exact exU (f1.trans f2) h
          | bad => rw [e5] at h; exact h
          | ok z ρ3 =>
            rw [e5] at h
            simp only at h
            intro zv F3 H3 E3 S3 f3 k3 M3 d3 r3
            cases e6 : blE z with
            | none => rw [e6] at h; exact h.elim
            | some k =>
              rw [e6] at h
              refine ⟨k, blE_ok r3 e6, ?_⟩
              cases k with
              | false =>
                rw [if_neg Bool.false_ne_true]
                have hw := Got.weak h (f1.trans (f2.trans f3)) (fun a x => (k3 a (.inl (.inl x))).trans ((k2 a (.inl x)).trans (k1 a x))) (T1 := fun a => ((T a ∨ S1 a) ∨ S2 a) ∨ S3 a) (fun a x => .inl (.inl (.inl x))) relO_mono
                exact hw.sc M3 (.bl false)
              | true =>
                rw [if_pos rfl]
                simp only at h
                refine run_ag M3 ?_
                cases e7 : evA d ρ3 with
                | exc cl ρ4 => rw [e7] at h; exact exU (f1.trans (f2.trans f3)) h
                | bad => rw [e7] at h; exact h
                | ok dd ρ4 =>
                  rw [e7] at h
                  simp only at h
                  intro w F4 H4 E4 S4 f4 k4 M4 d4 r4
                  cases e8 : oOf ρ4 db with
                  | none => rw [e8] at h; exact h.elim
                  | some ob' =>
                    rw [e8] at h
                    simp only at h
                    cases e9 : oOf ρ4 dd with
                    | none => rw [e9] at h; exact h.elim
                    | some od =>
                      rw [e9] at h
                      simp only at h
                      obtain ⟨Sb', rb', hb'⟩ := ((r2.frame f3 fun a x => k3 a (.inr x)).frame f4 fun a x => k4 a (.inl (.inr x))).rp M4 (fun a x => .inl (.inl (.inr x))) e8
                      obtain ⟨Sd, rd, hd⟩ := r4.rp M4 (fun a x => .inr x) e9
                      have hw := Got.weak h (f1.trans (f2.trans (f3.trans f4))) (fun a x => (k4 a (.inl (.inl (.inl x)))).trans ((k3 a (.inl (.inl x))).trans ((k2 a (.inl x)).trans (k1 a x)))) (T1 := fun a => (((T a ∨ S1 a) ∨ S2 a) ∨ S3 a) ∨ S4 a) (fun a x => .inl (.inl (.inl (.inl x)))) relO_mono
                      exact sv' ρ4 σ F4 H4 E4 _ Sb' Sd y w ob' od Q M4 rb' rd hb' hd hw
def osAt (ρ : Ev) : List Dn → Option (List O)
  | [] => some []
  | d :: ds => match oOf ρ d with
    | some o => match osAt ρ ds with
      | some os => some (o :: os)
      | none => none
    | none => none
def mCB (fo : List O → Ev → R O) (as : List Ag) : ME := fun ρ => match evAs as ρ with
  | .ok ds ρ1 => match osAt ρ1 ds with
    | some os => fo os ρ1
    | none => .bad
  | .exc cl r => .exc cl r
  | .bad => .bad
abbrev Bor (K : PySem.W.Frag) (F H : Hp) (E T : Addr → Prop) : List V → List O → Prop := Paired fun v o => ∃ S, RpO K F H v o S ∧ ∀ a, S a → E a ∨ T a
def ServesL (K : PySem.W.Frag) (c : Cc) (g : Str → Option Value) (W : WX) (r : List V → Hp → VK → Prop) (fo : List O → Ev → R O) : Prop :=
  ∀ (ρ : Ev) (σ : St) (F H : Hp) (E T : Addr → Prop) (xs : List V) (os : List O) (Q : VK), MI K c ρ σ F H E T → Bor K F H E T xs os → Got K c g W (relO K) σ F H T Q (fo os ρ) → r xs H Q
theorem osAt_ok (M : MI K c ρ σ F H E T) : ∀ {ds : List Dn} {vs : List V} {os : List O} {S : Addr → Prop}, DnRs K σ F H vs ds S → (∀ a, S a → T a) → osAt ρ ds = some os → Bor K F H E T vs os
  | [], _, _, _, r, _, e => by cases r; cases e; exact .nil
  | d :: ds, _, _, _, r, hs, e => by
    cases r with
    | cons r rs s1 s2 dj =>
      simp only [osAt] at e
      cases q1 : oOf ρ d with
      | none => rw [q1] at e; cases e
      | some o =>
        rw [q1] at e
        simp only at e
        cases q2 : osAt ρ ds with
        | none => rw [q2] at e; cases e
        | some os =>
          rw [q2] at e
          cases e
          exact .cons (r.rp M (fun a x => hs a (s1 a x)) q1) (osAt_ok M rs (fun a x => hs a (s2 a x)) q2)
theorem conv_cb {r : List V → Hp → VK → Prop} {fo : List O → Ev → R O} {as : List Ag} (sv : ServesL K c g W r fo) (σ : St) (H : Hp) (Q : VK) (h : tM K c g W (mCB fo as) σ H Q) : tCB r (tMA K c g W as) σ H Q := by
  obtain ⟨ρ, F, E, T, M, h⟩ := h
  unfold mCB at h
  refine ⟨ρ, F, E, T, M, ?_⟩
  cases e1 : evAs as ρ with
  | exc cl ρ1 => rw [e1] at h; exact h
  | bad => rw [e1] at h; exact h
  | ok ds ρ1 =>
    rw [e1] at h
    simp only at h
    intro vs F1 H1 E1 S1 f1 k1 M1 d1 r1
    cases e2 : osAt ρ1 ds with
    | none => rw [e2] at h; exact h.elim
    | some os =>
      rw [e2] at h
      exact sv ρ1 σ F1 H1 E1 _ vs os Q M1 (osAt_ok M1 r1 (fun a x => .inr x) e2) (Got.weak h f1 k1 (fun a x => .inl x) relO_mono)
end

section
variable {X : Cx} {c : Cc} {W : WX} {e e1 e2 e3 : Expr} {es rest : List Expr} {a b d : Ag} {as : List Ag} {m n : ME} {t u : Ev → R Bool} {pos p2 : Pos} {lo hi : Option Expr} {al ah : Option Ag}
abbrev PB (X : Cx) (c : Cc) (W : WX) (e : Option Expr) (b : Option Ag) : Prop := PO X e (tMP X.K c X.mg W b)
theorem po_conv {t t' : TO} {e : Option Expr} (h : PO X e t) (k : ∀ σ H Q, t' σ H Q → t σ H Q) : PO X e t' := by
  constructor
  first
    | exact fun pins s σ H Q I q => h.run pins s σ H Q I (k σ H Q q)
    | exact fun pins s σ H Q k2 I q => h.run pins s σ H Q k2 I (k σ H Q q)
theorem b_no : PB X c W none none := po_conv po_none fun σ H Q h => conv_nopart σ H Q h
theorem b_some (h : PX X c W e a) : PB X c W (some e) (some a) := po_conv (po_some h) fun σ H Q h => conv_part σ H Q h
theorem x_sl (ha : PX X c W e a) (hl : PB X c W lo al) (hh : PB X c W hi ah) : PM X c W (.Subscript e (.Slice lo hi none p2) pos) (mSl a al ah) :=
  pe_conv (pe_slice sl_Q ha hl hh) fun σ H Q h => conv_sl (fun _ _ _ q => q) (fun _ _ _ q => q) σ H Q h
theorem x_lst (h : PAM X c W es as) : PM X c W (.List es pos) (mLst as) := pe_conv (pe_lst h) fun σ H Q q => conv_lst σ H Q q
theorem x_tup {k : Nat} (h : PAM X c W es as) : PM X c W (.Tuple es k pos) (mTup as) := pe_conv (pe_tup h) fun σ H Q q => conv_tup σ H Q q
theorem t_tru (h : PX X c W e a) (he : ∀ whole, isTrue e X.env whole = (do let v ← whole; standAt e.pos; holding [v] (truthy v)) := by intro _; rfl) : PTM X c W e (mTru a) := pt_conv (pt_truth h he) fun σ H Q q => conv_tru σ H Q q
theorem t_cmp {op : CmpOp} {r : R2} {fo : O → O → Ev → R O} (sv : Serves X.K c X.mg W r fo) (ho : OpR X (compareOp op) r) (ha : PX X c W e1 a) (hb : PX X c W e2 b) (hm : behindInMarks op e2 = false) : PTM X c W (.Compare e1 [op] [e2] pos) (asB (mBin fo a b)) :=
  pt_conv (pt_cmpR ho ha hb hm) fun σ H Q q => conv_bin sv σ H _ (conv_asB σ H Q q)
theorem t_not (h : PTM X c W e t) : PTM X c W (.UnaryOp .Not e pos) (bNot t) := pt_conv (pt_not h) fun σ H Q q => conv_not σ H Q q
abbrev PWM (X : Cx) (c : Cc) (W : WX) (e : Expr) (m : Ev → R Bool) : Prop := PW X e (tMT X.K c X.mg W m)
theorem w_and1 (h : PTM X c W e t) : PWM X c W (.BoolOp .And [e] pos) t := pw_and1 h
theorem w_or1 (h : PTM X c W e t) : PWM X c W (.BoolOp .Or [e] pos) t := pw_or1 h
theorem w_and (h : PTM X c W e1 t) (h2 : PWM X c W (.BoolOp .And (e2 :: rest) pos) u) : PWM X c W (.BoolOp .And (e1 :: e2 :: rest) pos) (bAnd t u) := pw_conv (pw_and h h2) fun σ H Q q => conv_and σ H Q q
theorem w_or (h : PTM X c W e1 t) (h2 : PWM X c W (.BoolOp .Or (e2 :: rest) pos) u) : PWM X c W (.BoolOp .Or (e1 :: e2 :: rest) pos) (bOr t u) := pw_conv (pw_or h h2) fun σ H Q q => conv_or σ H Q q
theorem t_w (h : PWM X c W e t) : PTM X c W e t := h.pt
theorem x_one {op : BoolOp} (h : PM X c W e m) : PM X c W (.BoolOp op [e] pos) m := pe_one h
theorem x_and (h : PM X c W e1 m) (h2 : PM X c W (.BoolOp .And (e2 :: rest) pos) n) : PM X c W (.BoolOp .And (e1 :: e2 :: rest) pos) (vAnd m n) := pe_conv (pe_and h h2) fun σ H Q q => conv_vand σ H Q q
theorem x_or (h : PM X c W e1 m) (h2 : PM X c W (.BoolOp .Or (e2 :: rest) pos) n) : PM X c W (.BoolOp .Or (e1 :: e2 :: rest) pos) (vOr m n) := pe_conv (pe_or h h2) fun σ H Q q => conv_vor σ H Q q
theorem x_not (h : PM X c W e m) : PM X c W (.UnaryOp .Not e pos) (vNot m) := pe_conv (pe_not h) fun σ H Q q => conv_vnot σ H Q q
theorem t_chain {op op' : CmpOp} {r r' : R2} {fo fo' : O → O → Ev → R O} (sv : Serves X.K c X.mg W r fo) (sv' : Serves X.K c X.mg W r' fo') (ho : OpR X (compareOp op) r) (ho' : OpR X (compareOp op') r') (ha : PX X c W e1 a) (hb : PX X c W e2 b) (hd : PX X c W e3 d)
    (hm : lastMarks [op, op'] [e2, e3] = false := by with_unfolding_all rfl) : PTM X c W (.Compare e1 [op, op'] [e2, e3] pos) (asB (mChain fo fo' a b d)) :=
  pt_conv (pt_chain ho ho' ha hb hd hm) fun σ H Q q => conv_chain sv sv' σ H _ (conv_asB σ H Q q)
theorem x_cb {r : List V → Hp → VK → Prop} {fo : List O → Ev → R O} {x : Str} {id : String} {p : Pos} (sv : ServesL X.K c X.mg W r fo) (hc : CallR X (.builtin id) r) (hg : Gl X x) (hm : X.mg x = none) (hv : bootBuiltins x = some (.builtin id)) (ha : PAM X c W (e :: es) as) (hn : x ≠ "__name__" := by decide) (hdb : (x == ("__debug__" : Str)) = false := by decide)
    (he : starEach (e :: es) X.env = (false, eval e X.env) :: starEach es X.env := by rfl) (hpl : (backTo pos (starEach es X.env)).any (·.1) = false := by rfl) : PM X c W (.Call (.Name x p) (e :: es) [] pos) (mCB fo as) :=
  pe_conv (pe_callB hc hg hm hv ha hn hdb he hpl) fun σ H Q q => conv_cb sv σ H Q q
theorem x_cty {r : List V → Hp → VK → Prop} {fo : List O → Ev → R O} {x : Str} {id : String} {p : Pos} (sv : ServesL X.K c X.mg W r fo) (hc : CallR X (.type id) r) (hg : Gl X x) (hm : X.mg x = none) (hv : bootBuiltins x = some (.type id)) (ha : PAM X c W (e :: es) as) (hn : x ≠ "__name__" := by decide) (hdb : (x == ("__debug__" : Str)) = false := by decide)
    (he : starEach (e :: es) X.env = (false, eval e X.env) :: starEach es X.env := by rfl) (hpl : (backTo pos (starEach es X.env)).any (·.1) = false := by rfl) : PM X c W (.Call (.Name x p) (e :: es) [] pos) (mCB fo as) :=
  pe_conv (pe_callTy hc hg hm hv ha hn hdb he hpl) fun σ H Q q => conv_cb sv σ H Q q
end
end MM
namespace MM
open PySem L2

section
variable {K : PySem.W.Frag} {c : Cc} {g : Str → Option Value} {W : WX} {F H : Hp} {E T : Addr → Prop}
theorem bor1 {xs : List V} {o : O} (b : Bor K F H E T xs [o]) : ∃ v S, xs = [v] ∧ RpO K F H v o S := by
  cases b with
  | cons h t => cases t; obtain ⟨S, r, _⟩ := h; exact ⟨_, S, rfl, r⟩
def f1 (f : O → Option U) : List O → Ev → R O
  | [o], ρ => match f o with
    | some u => .ok (.sh u) ρ
    | none => .bad
  | _, _ => .bad
theorem serve_f1 {r : List V → Hp → VK → Prop} {f : O → Option U} (k : ∀ {ρ : Ev} {σ : St} {F H : Hp} {E T S : Addr → Prop} {v : V} {o : O} {u : U}, MI K c ρ σ F H E T → RpO K F H v o S → f o = some u → ∃ z, Dq K F z u ∧ ∀ Q : VK, Q z H → r [v] H Q) : ServesL K c g W r (f1 f) := by
  intro ρ σ F H E T xs os Q M b h
  unfold f1 at h
  split at h
  · rename_i o
    obtain ⟨v, S, rfl, r1⟩ := bor1 b
    cases e : f o with
    | none => simp only [e] at h; exact h.elim
    | some u =>
      simp only [e] at h
      obtain ⟨z, d, q⟩ := k M r1 e
      exact q Q (h.sc M d)
  · exact h.elim
def lenO : O → Option U
  | .sh (.str x) => if x.length ≤ 16777216 then some (.int (x.length : Nat)) else none
  | .sh (.list us) => some (.int (us.length : Nat))
  | .sh (.tuple us) => some (.int (us.length : Nat))
  | .ol os => some (.int (os.length : Nat))
  | .ot os => some (.int (os.length : Nat))
  | .sc us => some (.int (us.length : Nat))
  | _ => none
abbrev rLen (K : PySem.W.Frag) : List V → Hp → VK → Prop := fun xs H Q => ∃ x n, xs = [x] ∧ LenV K x H n ∧ Q (.int n) H
theorem sv_len : ServesL K c g W (rLen K) (f1 lenO) := serve_f1 fun {ρ σ F H E T S v o u} M r e => by
  cases r with
  | sh d =>
    cases d with
    | str x =>
      simp only [lenO] at e
      split at e
      · cases e; exact ⟨_, .int _, fun Q q => ⟨_, x.length, rfl, ⟨by rw [line_eq]; assumption, rfl⟩, q⟩⟩
      · cases e
    | lst h a => cases e; exact ⟨_, .int _, fun Q q => ⟨_, _, rfl, .inl ⟨_, .inl (Rd.mono M.ff (.inl h)), rfl⟩, by rw [a.len]; exact q⟩⟩
    | tup h a => cases e; exact ⟨_, .int _, fun Q q => ⟨_, _, rfl, .inr ⟨_, SqT.mono M.ff h, rfl⟩, by rw [a.len]; exact q⟩⟩
    | _ => simp [lenO] at e
  | ol h _ a _ _ => cases e; exact ⟨_, .int _, fun Q q => ⟨_, _, rfl, .inl ⟨_, .inl (.inl h), rfl⟩, by rw [a.len]; exact q⟩⟩
  | ot h _ a _ _ => cases e; exact ⟨_, .int _, fun Q q => ⟨_, _, rfl, .inr ⟨_, .inl (.inl h), rfl⟩, by rw [a.len]; exact q⟩⟩
  | sc h a => cases e; exact ⟨_, .int _, fun Q q => ⟨_, _, rfl, .inl ⟨_, M.ff.seq h, rfl⟩, by rw [a.len]; exact q⟩⟩
  | od _ _ => simp [lenO] at e
  | nd _ _ _ _ => simp [lenO] at e
  | nf _ _ _ _ => simp [lenO] at e
  | ins _ _ _ _ _ _ => simp [lenO] at e
  | fi _ _ _ => simp [lenO] at e
  | dl _ _ _ _ _ _ => simp [lenO] at e
  | df _ => simp [lenO] at e
def absO (o : O) : Option U := match intE o with
  | some i => some (.int (if i < 0 then -i else i))
  | none => none
theorem sv_abs : ServesL K c g W (fun xs H Q => ∃ i, xs = [.int i] ∧ Q (.int (if i < 0 then -i else i)) H) (f1 absO) := serve_f1 fun {ρ σ F H E T S v o u} M r e => by
  unfold absO at e
  split at e
  · rename_i i ei
    cases e
    have := intE_ok r ei
    subst this
    exact ⟨_, .int _, fun Q q => ⟨i, rfl, q⟩⟩
  · cases e
def intO : O → Option U
  | .sh (.int i) => some (.int i)
  | .sh (.bool b) => some (.int (if b then 1 else 0))
  | _ => none
theorem sv_int : ServesL K c g W (fun xs H Q => (∃ i, xs = [.int i] ∧ Q (.int i) H) ∨ ∃ k, xs = [.bl k] ∧ Q (.int (if k then 1 else 0)) H) (f1 intO) := serve_f1 fun {ρ σ F H E T S v o u} M r e => by
  cases r with
  | sh d =>
    cases d with
    | int i => cases e; exact ⟨_, .int _, fun Q q => .inl ⟨i, rfl, q⟩⟩
    | bl b => cases e; exact ⟨_, .int _, fun Q q => .inr ⟨b, rfl, q⟩⟩
    | _ => simp [intO] at e
  | _ => simp [intO] at e
def f2i (f : Int → Int → Int) : List O → Ev → R O
  | [a, b], ρ => match intE a with
    | some i => match intE b with
      | some j => .ok (.sh (.int (f i j))) ρ
      | none => .bad
    | none => .bad
  | _, _ => .bad
def iMax (i j : Int) : Int := if j > i then j else i
def iMin (i j : Int) : Int := if j < i then j else i
def intsU : List U → Option (List Int)
  | [] => some []
  | .int i :: us => match intsU us with
    | some is => some (i :: is)
    | none => none
  | _ :: _ => none
def blsU : List U → Option (List Bool)
  | [] => some []
  | .bool i :: us => match blsU us with
    | some is => some (i :: is)
    | none => none
  | _ :: _ => none
theorem intsU_ok : ∀ {us : List U} {vs : List V} {is : List Int}, DqAll K F vs us → intsU us = some is → vs = is.map V.int
  | [], _, _, d, e => by cases d; cases e; rfl
  | u :: us, _, _, d, e => by
    cases d with
    | cons d1 d2 =>
      cases u with
      | int i =>
        simp only [intsU] at e
        cases q : intsU us with
        | none => rw [q] at e; cases e
        | some is => rw [q] at e; cases e; cases d1; rw [intsU_ok d2 q]; rfl
      | _ => simp [intsU] at e
theorem blsU_ok : ∀ {us : List U} {vs : List V} {is : List Bool}, DqAll K F vs us → blsU us = some is → vs = is.map V.bl
  | [], _, _, d, e => by cases d; cases e; rfl
  | u :: us, _, _, d, e => by
    cases d with
    | cons d1 d2 =>
      cases u with
      | bool i =>
        simp only [blsU] at e
        cases q : blsU us with
        | none => rw [q] at e; cases e
        | some is => rw [q] at e; cases e; cases d1; rw [blsU_ok d2 q]; rfl
      | _ => simp [blsU] at e
def sumL : List Int → Int
  | [] => 0
  | i :: is => i + sumL is
theorem sumL_eq : ∀ is, sumL is = is.sum
  | [] => rfl
  | i :: is => by rw [sumL, sumL_eq is, List.sum_cons]
def sumO (o : O) : Option U := match lstE o with
  | some us => match intsU us with
    | some is => some (.int (sumL is))
    | none => none
  | none => none
theorem sv_sum : ServesL K c g W (rSum K) (f1 sumO) := serve_f1 fun {ρ σ F H E T S v o u} M r e => by
  unfold sumO at e
  split at e
  · rename_i us eu
    split at e
    · rename_i is ei
      cases e
      obtain ⟨p, vs, rfl, h1, d⟩ := lstE_ok M.ff r eu
      have := intsU_ok d ei
      subst this
      exact ⟨_, .int _, fun Q q => ⟨p, is, rfl, .inl h1, by rw [← sumL_eq]; exact q⟩⟩
    · cases e
  · cases e
def maxI : Int → List Int → Int
  | i, [] => i
  | i, j :: is => maxI (if i < j then j else i) is
def minI : Int → List Int → Int
  | i, [] => i
  | i, j :: is => minI (if j < i then j else i) is
theorem minI_ok : ∀ (is : List Int) (i : Int), (minI i is = i ∨ minI i is ∈ is) ∧ minI i is ≤ i ∧ ∀ j ∈ is, minI i is ≤ j
  | [], i => ⟨.inl rfl, Int.le_refl _, fun j h => by cases h⟩
  | j :: is, i => by
    obtain ⟨h1, h2, h3⟩ := minI_ok is (if j < i then j else i)
    unfold minI
    refine ⟨?_, ?_, fun k hk => ?_⟩
    · rcases h1 with h1 | h1
      · rw [h1]; split
        · exact .inr List.mem_cons_self
        · exact .inl rfl
      · exact .inr (List.mem_cons_of_mem _ h1)
    · revert h2; split <;> omega
    · rcases List.mem_cons.mp hk with rfl | hk
      · revert h2; split <;> omega
      · exact h3 k hk
def minO (o : O) : Option U := match lstE o with
  | some us => match intsU us with
    | some (i :: is) => some (.int (minI i is))
    | _ => none
  | none => none
theorem sv_minL : ServesL K c g W (rMin K) (f1 minO) := serve_f1 fun {ρ σ F H E T S v o u} M r e => by
  unfold minO at e
  split at e
  · rename_i us eu
    split at e
    · rename_i i is ei
      cases e
      obtain ⟨p, vs, rfl, h1, d⟩ := lstE_ok M.ff r eu
      have := intsU_ok d ei
      subst this
      obtain ⟨m1, m2, m3⟩ := minI_ok is i
      refine ⟨_, .int _, fun Q q => ⟨p, i :: is, rfl, .inl h1, Nat.zero_lt_succ _, fun m hm hy => ?_⟩⟩
      have : m = minI i is := by
        apply Int.le_antisymm
        · rcases m1 with z | z
          · rw [z]; exact hy i List.mem_cons_self
          · exact hy _ (List.mem_cons_of_mem _ z)
        · rcases List.mem_cons.mp hm with rfl | hm
          · exact m2
          · exact m3 m hm
      rw [this]; exact q
    · cases e
  · cases e
def allO (o : O) : Option U := match lstE o with
  | some us => match blsU us with
    | some bs => some (.bool (bs.all id))
    | none => none
  | none => none
theorem sv_all : ServesL K c g W (rAll K) (f1 allO) := serve_f1 fun {ρ σ F H E T S v o u} M r e => by
  unfold allO at e
  split at e
  · rename_i us eu
    split at e
    · rename_i is ei
      cases e
      obtain ⟨p, vs, rfl, h1, d⟩ := lstE_ok M.ff r eu
      have := blsU_ok d ei
      subst this
      exact ⟨_, .bl _, fun Q q => ⟨p, is, rfl, .inl h1, q⟩⟩
    · cases e
  · cases e
def seqE (o : O) : Option (List U) := match lstE o with
  | some us => some us
  | none => tupE o
def fList : List O → Ev → R O
  | [o], ρ => match seqE o with
    | some us => .ok (.ol (shs us)) ρ
    | none => .bad
  | _, _ => .bad
theorem seqE_ok {S : Addr → Prop} {v : V} {o : O} {us : List U} (hF : Same F H) (r : RpO K F H v o S) (e : seqE o = some us) : ∃ p vs, v = .ref p ∧ (Rd H p (.lst vs) ∨ SqT K H p vs) ∧ DqAll K F vs us := by
  unfold seqE at e
  split at e
  · rename_i ws ew
    cases e
    obtain ⟨p, vs, h1, h2, h3⟩ := lstE_ok hF r ew
    exact ⟨p, vs, h1, .inl h2, h3⟩
  · obtain ⟨p, vs, h1, h2, h3⟩ := tupE_ok hF r e
    exact ⟨p, vs, h1, .inr h2, h3⟩
theorem sv_list : ServesL K c g W (fun xs H Q => ∃ p ys, xs = [.ref p] ∧ (SqL K H p ys ∨ SqT K H p ys) ∧ ∀ l, H l = none → Q (.ref l) (upd H l (.lst ys))) fList := by
  intro ρ σ F H E T xs os Q M b h
  unfold fList at h
  split at h
  · rename_i o
    obtain ⟨v, S, rfl, r1⟩ := bor1 b
    cases e : seqE o with
    | none => simp only [e] at h; exact h.elim
    | some us =>
      simp only [e] at h
      obtain ⟨p, vs, rfl, h1, d⟩ := seqE_ok M.ff r1 e
      exact ⟨p, vs, rfl, h1.imp .inl id, fun l hl => got_list h M hl d⟩
  · exact h.elim
def fTuple : List O → Ev → R O
  | [o], ρ => match lstE o with
    | some us => .ok (.sh (.tuple us)) ρ
    | none => match tupS o with
      | some us => .ok (.sh (.tuple us)) ρ
      | none => .bad
  | _, _ => .bad
theorem sv_tuple : ServesL K c g W (fun xs H Q => ∃ p ys, xs = [.ref p] ∧ ((SqL K H p ys ∧ ∀ l, H l = none → Q (.ref l) (upd H l (.tup ys))) ∨ (SqT K H p ys ∧ Q (.ref p) H))) fTuple := by
  intro ρ σ F H E T xs os Q M b h
  unfold fTuple at h
  split at h
  · rename_i o
    obtain ⟨v, S, rfl, r1⟩ := bor1 b
    cases e : lstE o with
    | some us =>
      simp only [e] at h
      obtain ⟨p, vs, rfl, h1, d⟩ := lstE_ok M.ff r1 e
      exact ⟨p, vs, rfl, .inl ⟨.inl h1, fun l hl => got_tup h M hl d⟩⟩
    | none =>
      simp only [e] at h
      cases e2 : tupS o with
      | none => simp only [e2] at h; exact h.elim
      | some us =>
        simp only [e2] at h
        obtain ⟨p, vs, rfl, h1, d⟩ := tupS_ok r1 e2
        exact ⟨p, vs, rfl, .inr ⟨SqT.mono M.ff h1, h.sc M (.tup h1 d)⟩⟩
  · exact h.elim
inductive Ty where | non | bl | int | str | lst | tup
def Ty.name : Ty → String
  | .non => "NoneType"
  | .bl => "bool"
  | .int => "int"
  | .str => "str"
  | .lst => "list"
  | .tup => "tuple"
def Ty.isi : Ty → Ty → Bool
  | .bl, .bl => true
  | .bl, .int => true
  | .int, .int => true
  | .str, .str => true
  | .lst, .lst => true
  | .tup, .tup => true
  | .non, .non => true
  | _, _ => false
def tyO : O → Option Ty
  | .sh .none => some .non
  | .sh (.bool _) => some .bl
  | .sh (.int _) => some .int
  | .sh (.str _) => some .str
  | .sh (.list _) => some .lst
  | .sh (.tuple _) => some .tup
  | .ol _ => some .lst
  | .ot _ => some .tup
  | _ => none
theorem kit_isi : ∀ (a b : Ty), b ≠ .non → kitB a.name b.name = some (a.isi b)
  | .non, .bl, _ | .non, .int, _ | .non, .str, _ | .non, .lst, _ | .non, .tup, _ => by decide +kernel
  | .bl, .bl, _ | .bl, .int, _ | .bl, .str, _ | .bl, .lst, _ | .bl, .tup, _ => by decide +kernel
  | .int, .bl, _ | .int, .int, _ | .int, .str, _ | .int, .lst, _ | .int, .tup, _ => by decide +kernel
  | .str, .bl, _ | .str, .int, _ | .str, .str, _ | .str, .lst, _ | .str, .tup, _ => by decide +kernel
  | .lst, .bl, _ | .lst, .int, _ | .lst, .str, _ | .lst, .lst, _ | .lst, .tup, _ => by decide +kernel
  | .tup, .bl, _ | .tup, .int, _ | .tup, .str, _ | .tup, .lst, _ | .tup, .tup, _ => by decide +kernel
  | _, .non, h => absurd rfl h
theorem tyO_ok {S : Addr → Prop} {v : V} {o : O} {t : Ty} (hF : Same F H) (r : RpO K F H v o S) (e : tyO o = some t) : TyX K H v (.type t.name) := by
  have rl : ∀ {p : Addr} {vs : List V}, Rd H p (.lst vs) → TyX K H (.ref p) (.type "list") := fun h => by
    rcases h with h | ⟨ob, h⟩
    · exact .base (.lst h)
    · exact .base (.frz h)
  have rt : ∀ {p : Addr} {vs : List V}, SqT K H p vs → TyX K H (.ref p) (.type "tuple") := fun h => by
    rcases h with (h | ⟨ob, h⟩) | ⟨ob, its, n, h1, h2, _⟩
    · exact .base (.tup h)
    · exact .fTuple h
    · exact .kTuple h1 h2
  cases r with
  | sh d =>
    cases d with
    | non => cases e; exact .base .non
    | bl b => cases e; exact .base (.bl b)
    | int i => cases e; exact .base (.int i)
    | str x => cases e; exact .base (.str x)
    | lst h a => cases e; exact rl (Rd.mono hF (.inl h))
    | tup h a => cases e; exact rt (SqT.mono hF h)
  | ol h _ _ _ _ => cases e; exact rl (.inl h)
  | ot h _ _ _ _ => cases e; exact rt (.inl (.inl h))
  | sc h _ => simp [tyO] at e
  | od _ _ => simp [tyO] at e
  | nd _ _ _ _ => simp [tyO] at e
  | nf _ _ _ _ => simp [tyO] at e
  | ins _ _ _ _ _ _ => simp [tyO] at e
  | fi _ _ _ => simp [tyO] at e
  | dl _ _ _ _ _ _ => simp [tyO] at e
  | df _ => simp [tyO] at e
def fIsi (t : Ty) (o : O) (ρ : Ev) : R O := match tyO o with
  | some s => .ok (.sh (.bool (s.isi t))) ρ
  | none => .bad
theorem conv_isi {a : Ag} {t : Ty} (ht : t ≠ .non) (σ : St) (H : Hp) (Q : VK) (h : tM K c g W (mUn (fIsi t) a) σ H Q) : tCB (rIsi K) (tCons (tAg K c g W a) (tCons (tC (.ty t.name)) tNil)) σ H Q := by
  have sv : Serves1 K c g W (fun x H Q => rIsi K [x, .ty t.name] H Q) (fIsi t) := by
    intro ρ σ F H E T Sa x oa Q M ra _ h
    unfold fIsi at h
    cases e : tyO oa with
    | none => rw [e] at h; exact h.elim
    | some s =>
      rw [e] at h
      exact ⟨x, .ty t.name, _, _, s.isi t, rfl, .ty _, tyO_ok M.ff ra e, kit_ty (kit_isi s t ht), h.sc M (.bl _)⟩
  exact conv_un sv σ H Q h
end
section
variable {X : Cx} {c : Cc} {W : WX} {e : Expr} {a : Ag} {pos p p2 : Pos} {x : Str}
theorem x_isi (t : Ty) (ht : t ≠ .non) (ha : PX X c W e a) (hg : Gl X "isinstance") (hm : X.mg "isinstance" = none) (hg2 : Gl X x) (hm2 : X.mg x = none) (hv : bootBuiltins x = some (.type t.name)) (hn : x ≠ "__name__" := by decide) (hd : (x == ("__debug__" : Str)) = false := by decide)
    (he : starEach [e, .Name x p2] X.env = (false, eval e X.env) :: starEach [.Name x p2] X.env := by rfl) (he2 : starEach [.Name x p2] X.env = (false, eval (.Name x p2) X.env) :: starEach [] X.env := by rfl) (hpl : (backTo pos (starEach [.Name x p2] X.env)).any (·.1) = false := by rfl) :
    PM X c W (.Call (.Name "isinstance" p) [e, .Name x p2] [] pos) (mUn (fIsi t) a) :=
  pe_conv (pe_callB call_isi hg hm (by decide +kernel) (pa_cons ha (pa_cons (pe_bltn (v := .ty t.name) hg2 hm2 hv rfl hn hd) pa_nil he2) he) (he := he) (hpl := hpl)) fun σ H Q q => conv_isi ht σ H Q q
end
end MM
namespace MM
open PySem L2

section
variable (K : PySem.W.Frag) (c : Cc) (g : Str → Option Value) (W : WX)
def GotS (D : Ends) (F0 : Hp) : Fl → Prop
  | .nx ρ => ∀ σ F H E, Same F0 F → MI K c ρ σ F H E Em → D.nx σ H
  | .rt o ρ => ∀ v σ F H E S, Same F0 F → MI K c ρ σ F H E S → RpO K F H v o S → D.rt v H
  | .bk ρ => ∀ σ F H E, Same F0 F → MI K c ρ σ F H E Em → D.bk σ H
  | .ct ρ => ∀ σ F H E, Same F0 F → MI K c ρ σ F H E Em → D.ct σ H
  | .exc cl ρ => ∀ C σ F H E, g cl = some (.ref C) → Same F0 F → MI K c ρ σ F H E Em → W (.ref C) none σ H
  | .bad => False
def tS (m : MS) : TS := fun D σ H => ∃ ρ F E, MI K c ρ σ F H E Em ∧ GotS K c g W D F (m ρ)
end
section
variable {K : PySem.W.Frag} {c : Cc} {g : Str → Option Value} {W : WX} {ρ ρ' : Ev} {σ σ' : St} {F F' H H' : Hp} {E E' T T' S S1 S2 : Addr → Prop} {v : V} {o : O} {u : U} {D : Ends}
theorem emE {A : Addr → Prop} : ∀ a, A a → (Em a ∨ A a) := fun a x => .inr x
theorem emL {A : Addr → Prop} : ∀ a, (Em a ∨ A a) → A a := fun a x => x.elim False.elim id
theorem GotS.up {F0 F1 : Hp} {r : Fl} (h : GotS K c g W D F0 r) (f : Same F0 F1) : GotS K c g W D F1 r := by
  cases r with
  | nx ρ => exact fun σ F H E q => h σ F H E (f.trans q)
  | rt o ρ => exact fun v σ F H E S q => h v σ F H E S (f.trans q)
  | bk ρ => exact fun σ F H E q => h σ F H E (f.trans q)
  | ct ρ => exact fun σ F H E q => h σ F H E (f.trans q)
  | exc cl ρ => exact fun C σ F H E a q => h C σ F H E a (f.trans q)
  | bad => exact h
theorem GotS.ends {F0 : Hp} {r : Fl} {D' : Ends} (h : GotS K c g W D F0 r) (k1 : D'.nx = D.nx) (k2 : D'.rt = D.rt) (k3 : D'.bk = D.bk) (k4 : D'.ct = D.ct) : GotS K c g W D' F0 r := by
  cases r with
  | nx ρ => exact fun σ F H E q M => by rw [k1]; exact h σ F H E q M
  | rt o ρ => exact fun v σ F H E S q M r => by rw [k2]; exact h v σ F H E S q M r
  | bk ρ => exact fun σ F H E q M => by rw [k3]; exact h σ F H E q M
  | ct ρ => exact fun σ F H E q M => by rw [k4]; exact h σ F H E q M
  | exc cl ρ => exact h
  | bad => exact h
def sSeq (m n : MS) : MS := fun ρ => match m ρ with
  | .nx ρ1 => n ρ1
  | r => r
def sNil : MS := fun ρ => .nx ρ
def sBrk : MS := fun ρ => .bk ρ
def sCnt : MS := fun ρ => .ct ρ
theorem conv_seq {m n : MS} (σ : St) (H : Hp) (h : tS K c g W (sSeq m n) D σ H) : tSeq (tS K c g W m) (tS K c g W n) D σ H := by
  obtain ⟨ρ, F, E, M, h⟩ := h
  unfold sSeq at h
  refine ⟨ρ, F, E, M, ?_⟩
  cases e : m ρ with
  | nx ρ1 => rw [e] at h; exact fun σ F H E f M => ⟨ρ1, F, E, M, h.up f⟩
  | rt o ρ1 => rw [e] at h; exact h
  | bk ρ1 => rw [e] at h; exact h
  | ct ρ1 => rw [e] at h; exact h
  | exc cl ρ1 => rw [e] at h; exact h
  | bad => rw [e] at h; exact h
def sE (m : ME) (k : O → Ev → Fl) : MS := fun ρ => match m ρ with
  | .ok o ρ1 => k o ρ1
  | .exc cl r => .exc cl r
  | .bad => .bad
theorem run_e {m : ME} {k : O → Ev → Fl} {Q : VK} (h : tS K c g W (sE m k) D σ H)
    (hk : ∀ o ρ v F' H' E' S', m ≠ m ∨ (GotS K c g W D F' (k o ρ) → MI K c ρ σ F' H' E' S' → RpO K F' H' v o S' → Q v H')) : tM K c g W m σ H Q := by
  obtain ⟨ρ, F, E, M, h⟩ := h
  unfold sE at h
  refine ⟨ρ, F, E, Em, M, ?_⟩
  cases e : m ρ with
  | ok o ρ1 =>
    rw [e] at h
    intro v F1 H1 E1 S1 f1 k1 M1 d1 r1
    rcases hk o ρ1 v F1 H1 E1 S1 with z | z
    · exact absurd rfl z
    · exact z (h.up f1) (M1.less emE) r1
  | exc cl ρ1 => rw [e] at h; exact fun C F' H' E' a f M' => h C σ F' H' E' a f M'
  | bad => rw [e] at h; exact h
def sSet (i : Nat) (m : ME) : MS := sE m fun o ρ => .nx (ρ.set i (some o))
def sDrop (m : ME) : MS := sE m fun _ ρ => .nx ρ
def sRet (m : ME) : MS := sE m fun o ρ => .rt o ρ
def sRetN : MS := fun ρ => .rt (.sh .none) ρ
theorem conv_set {m : ME} {i : Nat} (hp : c.pin i = none) (σ : St) (H : Hp) (h : tS K c g W (sSet i m) D σ H) : tAsg (tM K c g W m) (gName i) D σ H :=
  run_e h fun o ρ v F' H' E' S' => .inr fun q M r => q _ _ _ _ (Same.refl _) ((M.less emL).store (fun _ x _ => x) r i hp)
theorem conv_drop {m : ME} (σ : St) (H : Hp) (h : tS K c g W (sDrop m) D σ H) : tDrop (tM K c g W m) D σ H :=
  run_e h fun o ρ v F' H' E' S' => .inr fun q M r => q _ _ _ _ (Same.refl _) (M.less fun _ x => x.elim)
theorem conv_ret {m : ME} (σ : St) (H : Hp) (h : tS K c g W (sRet m) D σ H) : tRet (tM K c g W m) D σ H :=
  run_e h fun o ρ v F' H' E' S' => .inr fun q M r => q v σ F' H' E' S' (Same.refl _) M r
def sIf (t : Ev → R Bool) (m n : MS) : MS := fun ρ => match t ρ with
  | .ok true ρ1 => m ρ1
  | .ok false ρ1 => n ρ1
  | .exc cl r => .exc cl r
  | .bad => .bad
theorem conv_if {t : Ev → R Bool} {m n : MS} (σ : St) (H : Hp) (h : tS K c g W (sIf t m n) D σ H) : tIfS (tMT K c g W t) (tS K c g W m) (tS K c g W n) D σ H := by
  obtain ⟨ρ, F, E, M, h⟩ := h
  unfold sIf at h
  refine ⟨ρ, F, E, Em, M, ?_⟩
  cases e : t ρ with
  | exc cl ρ1 => rw [e] at h; exact fun C F' H' E' a f M' => h C σ F' H' E' a f M'
  | bad => rw [e] at h; exact h
  | ok k ρ1 =>
    rw [e] at h
    intro k' F1 H1 E1 S1 f1 k1 M1 d1 r1
    cases r1
    cases k with
    | true => rw [if_pos rfl]; exact ⟨ρ1, F1, E1, M1.less fun _ x => x.elim, GotS.up h f1⟩
    | false => rw [if_neg Bool.false_ne_true]; exact ⟨ρ1, F1, E1, M1.less fun _ x => x.elim, GotS.up h f1⟩
def sAug (fo : O → O → Ev → R O) (i : Nat) (a : Ag) : MS := sSet i (mBin fo (.var i) a)
theorem conv_aug {r : R2} {fo : O → O → Ev → R O} {i : Nat} {a : Ag} (sv : Serves K c g W r fo) (hp : c.pin i = none) (σ : St) (H : Hp) (h : tS K c g W (sAug fo i a) D σ H) : tAug i (tAg K c g W a) r D σ H := by
  have h := conv_set hp σ H h
  exact conv_bin sv σ H _ h
def unpE : O → Option (List O)
  | .sh (.tuple us) => some (shs us)
  | .sh (.list us) => some (shs us)
  | .ol os => some os
  | .ot os => some os
  | _ => none
def setAll : List Nat → List O → Ev → Option Ev
  | [], [], ρ => some ρ
  | i :: is, o :: os, ρ => setAll is os (ρ.set i (some o))
  | _, _, _ => none
def sUnp (is : List Nat) (m : ME) : MS := sE m fun o ρ => match unpE o with
  | some os => match setAll is os ρ with
    | some ρ' => .nx ρ'
    | none => .bad
  | none => .bad
def gAll : List Nat → TGs
  | [] => gNil
  | i :: is => gCons (gName i) (gAll is)
theorem all_set (hp : ∀ j, j ∈ is → c.pin j = none) : ∀ {ρ : Ev} {σ : St} {E T S : Addr → Prop} {os : List O} {vs : List V} {ρ' : Ev} {Q : St → Hp → Prop}, MI K c ρ σ F H E (fun a => T a ∨ S a) → (∀ a, T a → S a → False) → RpOs K F H vs os S → setAll is os ρ = some ρ' →
    (∀ σ' E, (∀ j, j ∉ is → σ'[j]? = σ[j]?) → MI K c ρ' σ' F H E T → Q σ' H) → gAll is vs σ H Q := by
  induction is with
  | nil =>
    intro ρ σ E T S os vs ρ' Q M dj r e k
    cases os with
    | nil =>
      cases r
      cases e
      exact ⟨rfl, k σ E (fun _ _ => rfl) (M.less fun a x => .inl x)⟩
    | cons o os => simp [setAll] at e
  | cons i is ih =>
    intro ρ σ E T S os vs ρ' Q M dj r e k
    cases os with
    | nil => simp [setAll] at e
    | cons o os =>
      cases r with
      | cons r rs s1 s2 d =>
        rename_i v vs S1 S2
        simp only [setAll] at e
        have M1 : MI K c ρ σ F H E (fun a => (T a ∨ S2 a) ∨ S1 a) := M.less fun a x => by
          rcases x with (x | x) | x
          · exact .inl x
          · exact .inr (s2 a x)
          · exact .inr (s1 a x)
        have M2 := M1.store (fun a x y => by
          rcases x with x | x
          · exact dj a x (s1 a y)
          · exact d a y x) r i (hp i List.mem_cons_self)
        refine ⟨v, vs, rfl, ih (fun j hj => hp j (List.mem_cons_of_mem _ hj)) M2 (fun a x y => dj a x (s2 a y)) rs e fun σ' E ag M => k σ' E (fun j hj => ?_) M⟩
        rw [ag j fun z => hj (List.mem_cons_of_mem _ z), List.getElem?_set_ne fun (z : i = j) => hj (by rw [z]; exact List.mem_cons_self)]
theorem unpE_ok (hF : Same F H) (r : RpO K F H v o S) {os : List O} (e : unpE o = some os) : ∃ p vs S', v = .ref p ∧ (SqT K H p vs ∨ SqL K H p vs) ∧ RpOs K F H vs os S' ∧ ∀ a, S' a → S a := by
  cases r with
  | sh d =>
    cases d with
    | lst h a => cases e; exact ⟨_, _, Em, rfl, .inr (.inl (Rd.mono hF (.inl h))), shs_ok a, fun _ x => x.elim⟩
    | tup h a => cases e; exact ⟨_, _, Em, rfl, .inl (SqT.mono hF h), shs_ok a, fun _ x => x.elim⟩
    | _ => simp [unpE] at e
  | ol h _ r s _ => cases e; exact ⟨_, _, _, rfl, .inr (.inl (.inl h)), r, s⟩
  | ot h _ r s _ => cases e; exact ⟨_, _, _, rfl, .inl (.inl (.inl h)), r, s⟩
  | sc _ _ => simp [unpE] at e
  | od _ _ => simp [unpE] at e
  | nd _ _ _ _ => simp [unpE] at e
  | nf _ _ _ _ => simp [unpE] at e
  | ins _ _ _ _ _ _ => simp [unpE] at e
  | fi _ _ _ => simp [unpE] at e
  | dl _ _ _ _ _ _ => simp [unpE] at e
  | df _ => simp [unpE] at e
theorem setAll_len : ∀ {is : List Nat} {os : List O} {ρ ρ' : Ev}, setAll is os ρ = some ρ' → os.length = is.length
  | [], [], _, _, _ => rfl
  | [], _ :: _, _, _, e => by simp [setAll] at e
  | _ :: _, [], _, _, e => by simp [setAll] at e
  | i :: is, o :: os, _, _, e => by simp only [setAll] at e; simp [setAll_len e]
abbrev gUnp (K : PySem.W.Frag) (is : List Nat) : TG := fun v σ H Q => gTup K is.length (gAll is) v σ H Q ∨ gLst K is.length (gAll is) v σ H Q
theorem conv_unp {m : ME} {is : List Nat} (hp : ∀ j, j ∈ is → c.pin j = none) (σ : St) (H : Hp) (h : tS K c g W (sUnp is m) D σ H) : tAsg (tM K c g W m) (gUnp K is) D σ H := by
  refine run_e h fun o ρ v F' H' E' S' => .inr fun q M r => ?_
  cases e1 : unpE o with
  | none => simp only [e1] at q; exact q.elim
  | some os =>
    simp only [e1] at q
    cases e2 : setAll is os ρ with
    | none => simp only [e2] at q; exact q.elim
    | some ρ' =>
      simp only [e2] at q
      obtain ⟨p, vs, S2, rfl, hs, rs, sub⟩ := unpE_ok M.ff r e1
      have go : gAll is vs σ H' D.nx := all_set (T := Em) hp (M.less fun a x => sub a (emL a x)) (fun _ x _ => x) rs e2 fun σ E _ M => q σ F' H' E (Same.refl _) M
      have hl : vs.length = is.length := by rw [rs.len, setAll_len e2]
      rcases hs with hs | hs
      · exact .inl ⟨p, vs, rfl, hs, hl, go⟩
      · exact .inr ⟨p, vs, rfl, hs, hl, go⟩
def sPar (i j : Nat) (as : List Ag) : MS := fun ρ => match evAs as ρ with
  | .ok ds ρ1 => match osOf ds with
    | some [x, y] => .nx ((ρ1.set i (some x)).set j (some y))
    | _ => .bad
  | .exc cl r => .exc cl r
  | .bad => .bad
def sRaise (cl : Str) : MS := fun ρ => .exc cl ρ

theorem RpOs.snoc : ∀ {vs : List V} {os : List O} {v : V} {o : O} {S1 S2 : Addr → Prop}, RpOs K F H vs os S1 → RpO K F H v o S2 → (∀ a, S1 a → S2 a → False) → RpOs K F H (vs ++ [v]) (os ++ [o]) (fun a => S1 a ∨ S2 a)
  | [], [], _, _, _, _, .nil, r', d => .cons r' .nil (fun a x => .inr x) (fun a x => .inl x) (fun a x y => d a y x)
  | w :: vs, x :: os, _, _, _, _, .cons (S1 := A1) (S2 := A2) q qs s1 s2 dd, r', d => by
    refine .cons q (RpOs.snoc qs r' fun a x y => d a (s2 a x) y) (fun a x => .inl (s1 a x)) (fun a x => ?_) (fun a x y => ?_)
    · rcases x with x | x
      · exact .inl (s2 a x)
      · exact .inr x
    · rcases y with y | y
      · exact dd a x y
      · exact d a (s1 a x) y
def mMth (i : Nat) (f : List O → List O → Option (O × List O)) (as : List Ag) : ME := fun ρ => match ρ[i]? with
  | some (some (.ol _)) => match evAs as ρ with
    | .ok ds ρ1 => match osOf ds with
      | some xs => match ρ1[i]? with
        | some (some (.ol os)) => match f os xs with
          | some (o, os') => .ok o (ρ1.set i (some (.ol os')))
          | none => .bad
        | _ => .bad
      | none => .bad
    | .exc cl r => .exc cl r
    | .bad => .bad
  | _ => .bad
def ServesM (K : PySem.W.Frag) (r : V → List V → Hp → VK → Prop) (f : List O → List O → Option (O × List O)) : Prop :=
  ∀ (F H : Hp) (p : Addr) (vs ys : List V) (os xs : List O) (S1 S2 : Addr → Prop) (o : O) (os' : List O) (Q : VK), H p = some (.lst vs) → ¬ S1 p → ¬ S2 p → RpOs K F H vs os S1 → RpOs K F H ys xs S2 → (∀ a, S1 a → S2 a → False) → f os xs = some (o, os') →
    (∀ v vs', (∃ Sa Sb, RpO K F (upd H p (.lst vs')) v o Sa ∧ RpOs K F (upd H p (.lst vs')) vs' os' Sb ∧ (∀ a, Sa a → S1 a ∨ S2 a) ∧ (∀ a, Sb a → S1 a ∨ S2 a) ∧ ∀ a, Sa a → Sb a → False) → Q v (upd H p (.lst vs'))) → r (.ref p) ys H Q
theorem conv_mth {r : V → List V → Hp → VK → Prop} {f : List O → List O → Option (O × List O)} {i : Nat} {as : List Ag} (sv : ServesM K r f) (σ : St) (H : Hp) (Q : VK) (h : tM K c g W (mMth i f as) σ H Q) : tBM K "list" r (tVar i) (tMA K c g W as) σ H Q := by
  obtain ⟨ρ, F, E, T, M, h⟩ := h
  unfold mMth at h
  cases q : ρ[i]? with
  | none => rw [q] at h; exact h.elim
  | some x =>
    cases x with
    | none => rw [q] at h; exact h.elim
    | some o0 =>
      cases o0 with
      | sh u => rw [q] at h; exact h.elim
      | ot os => rw [q] at h; exact h.elim
      | od os => rw [q] at h; exact h.elim
      | nd os => rw [q] at h; exact h.elim
      | nf os => rw [q] at h; exact h.elim
      | ins _ _ => rw [q] at h; exact h.elim
      | fi _ _ => rw [q] at h; exact h.elim
      | dl _ _ => rw [q] at h; exact h.elim
      | df _ => rw [q] at h; exact h.elim
      | sc os => rw [q] at h; exact h.elim
      | ol os0 =>
        rw [q] at h
        simp only at h
        obtain ⟨v0, S0, hv, r0, _⟩ := M.env.get q
        cases r0 with
        | @ol p _ _ _ _ hp0 _ _ _ _ =>
          refine ⟨_, hv, .inl ⟨rfl, _, .inl (.inl hp0)⟩, ρ, F, E, T, M, ?_⟩
          cases e : evAs as ρ with
          | exc cl ρ1 => rw [e] at h; exact h
          | bad => rw [e] at h; exact h
          | ok ds ρ1 =>
            rw [e] at h
            simp only at h
            intro ys F1 H1 E1 S2 f1 k1 M1 d1 r1
            cases e2 : osOf ds with
            | none => rw [e2] at h; exact h.elim
            | some xs =>
              rw [e2] at h
              simp only at h
              have rxs := osOf_ok r1 e2
              cases q1 : ρ1[i]? with
              | none => rw [q1] at h; exact h.elim
              | some x1 =>
                cases x1 with
                | none => rw [q1] at h; exact h.elim
                | some o1 =>
                  cases o1 with
                  | sh u => rw [q1] at h; exact h.elim
                  | ot os => rw [q1] at h; exact h.elim
                  | od os => rw [q1] at h; exact h.elim
                  | nd os => rw [q1] at h; exact h.elim
                  | nf os => rw [q1] at h; exact h.elim
                  | ins _ _ => rw [q1] at h; exact h.elim
                  | fi _ _ => rw [q1] at h; exact h.elim
                  | dl _ _ => rw [q1] at h; exact h.elim
                  | df _ => rw [q1] at h; exact h.elim
                  | sc os => rw [q1] at h; exact h.elim
                  | ol os =>
                    rw [q1] at h
                    simp only at h
                    cases e3 : f os xs with
                    | none => rw [e3] at h; exact h.elim
                    | some oo =>
                      obtain ⟨o, os'⟩ := oo
                      rw [e3] at h
                      simp only at h
                      obtain ⟨v1, S1', E2, hv1, rr, M2, dj2⟩ := M1.take q1
                      rw [hv] at hv1
                      cases hv1
                      cases rr with
                      | @ol _ vs _ _ S1 hp hps rs s1 n1 =>
                        have hpS2 : ¬ S2 p := fun x => dj2 _ (.inr x) hps
                        refine sv F1 H1 _ vs ys os xs S1 S2 o os' Q hp n1 hpS2 rs rxs (fun a x y => dj2 a (.inr y) (s1 a x)) e3 fun v vs' ⟨Sa, Sb, ra, rb, ha, hb, hab⟩ => ?_
                        -- the changed list goes back
                        have M3 := MI.write (ob := .lst vs') (M2.less (T' := fun a => (T a ∨ S2 a) ∨ S1' a) fun a x => x) (fun a x y => dj2 a x y) hps
                        have sa : ∀ a, Sa a → S1' a ∨ S2 a := fun a x => (ha a x).imp (s1 a) id
                        have sb : ∀ a, Sb a → S1' a ∨ S2 a := fun a x => (hb a x).imp (s1 a) id
                        have nb : ¬ Sb p := fun x => (hb _ x).elim n1 hpS2
                        have na : ¬ Sa p := fun x => (ha _ x).elim n1 hpS2
                        have M4 : MI K c (ρ1.set i none) σ F1 (upd H1 p (.lst vs')) E2 (fun a => (T a ∨ Sa a) ∨ (a = p ∨ Sb a)) := M3.less fun a x => by
                          rcases x with (x | x) | x | x
                          · exact .inl (.inl x)
                          · rcases sa a x with y | y
                            · exact .inr y
                            · exact .inl (.inr y)
                          · subst x; exact .inr hps
                          · rcases sb a x with y | y
                            · exact .inr y
                            · exact .inl (.inr y)
                        have hTS : ∀ a, T a → (S1' a ∨ S2 a) → False := fun a x y => by
                          rcases y with y | y
                          · exact dj2 a (.inl x) y
                          · exact d1 a x y
                        have M5 := M4.back (o := .ol os') (v := .ref p) (i := i) (fun a x y => by
                          rcases x with x | x
                          · rcases y with y | y
                            · subst y; exact hTS _ x (.inl hps)
                            · exact hTS a x (sb a y)
                          · rcases y with y | y
                            · subst y; exact na x
                            · exact hab a x y) (.ol upd_same (.inl rfl) rb (fun a x => .inr x) nb) hv
                        rw [List.set_set] at M5
                        exact h v F1 _ _ Sa f1 (fun a x => by
                          rw [upd_ne fun z => by subst z; exact hTS _ x (.inl hps)]
                          exact k1 a x) M5 (fun a x y => hTS a x (sa a y)) ra
def fApp (os xs : List O) : Option (O × List O) := match xs with
  | [x] => if os.length < 16777216 then some (.sh .none, os ++ [x]) else none
  | _ => none
theorem upd_frame {vs' : List V} {p : Addr} (hs : ¬ S p) : ∀ a, S a → (upd H p (.lst vs')) a = H a := fun a x => upd_ne fun z => hs (z ▸ x)
theorem sv_app : ServesM K rAppend fApp := by
  intro F H p vs ys os xs S1 S2 o os' Q hp n1 n2 rs rx dj e k
  unfold fApp at e
  split at e
  · rename_i x
    split at e
    · rename_i hz
      cases e
      cases rx with
      | cons r rt s1 s2 dd =>
        cases rt
        rename_i y A1 A2
        refine ⟨p, vs, y, rfl, rfl, hp, by rw [rs.len, line_eq]; exact hz, k .non _ ⟨Em, fun a => S1 a ∨ A1 a, .sh .non, ?_, fun _ x => x.elim, fun a x => x.imp id (s1 a), fun _ x _ => x⟩⟩
        exact ((rs.frame (Same.refl F) (upd_frame n1)).snoc (r.frame (Same.refl F) (upd_frame fun z => n2 (s1 _ z))) fun a x y => dj a x (s1 a y))
    · cases e
  · cases e
def fClear (os xs : List O) : Option (O × List O) := match xs with
  | [] => some (.sh .none, [])
  | _ => none
end
end MM
namespace MM
open PySem L2

abbrev PSM (X : Cx) (c : Cc) (W : WX) (st : Stmt) (m : MS) : Prop := PS X st (tS X.K c X.mg W m)
abbrev PSsM (X : Cx) (c : Cc) (W : WX) (st : List Stmt) (m : MS) : Prop := PSs X st (tS X.K c X.mg W m)

section
variable (K : PySem.W.Frag) (c : Cc) (g : Str → Option Value) (W : WX)
def Iok (F0 : Hp) (J : It) (us : List U) : Prop := ∀ (k : Nat) (H F : Hp) (ρ : Ev) (σ : St) (E T : Addr → Prop), Same F0 F → MI K c ρ σ F H E T →
  (us.length ≤ k → J.stop k H) ∧ ∀ u, us[k]? = some u → J.go k H ∧ ∀ x H', J.yld k H x H' → ∃ F', Same F F' ∧ (∀ a, T a → H' a = H a) ∧ MI K c ρ σ F' H' E T ∧ Dq K F' x u
def GotI (σ : St) (F H : Hp) (T : Addr → Prop) (P : It → Hp → Prop) : R (List U) → Prop
  | .ok us ρ' => ∀ J F' H' E', Same F F' → (∀ a, T a → H' a = H a) → MI K c ρ' σ F' H' E' T → Iok K c F' J us → P J H'
  | .exc cl ρ' => ∀ C F' H' E', g cl = some (.ref C) → Same F F' → MI K c ρ' σ F' H' E' Em → W (.ref C) none σ H'
  | .bad => False
def tI (src : Ev → R (List U)) : TI := fun σ H P => ∃ ρ F E T, MI K c ρ σ F H E T ∧ GotI K c g W σ F H T P (src ρ)
end
inductive Tg where
  | nm (i : Nat)
  | tp (is : List Nat)
  | tq (is : List Nat) (j : Nat)
def Tg.slots : Tg → List Nat
  | .nm i => [i]
  | .tp is => is
  | .tq is j => j :: is
def bind : Tg → U → Ev → Option Ev
  | .nm i, u, ρ => some (ρ.set i (some (.sh u)))
  | .tp is, u, ρ => match unpE (.sh u) with
    | some os => setAll is os ρ
    | none => none
  | .tq is j, u, ρ => match unpE (.sh u) with
    | some [.sh a, .sh b] => match unpE (.sh a) with
      | some os => match setAll is os ρ with
        | some ρ1 => some (ρ1.set j (some (.sh b)))
        | none => none
      | none => none
    | _ => none
def lpF (t : Tg) (body : MS) : List U → Ev → Fl
  | [], ρ => .nx ρ
  | u :: us, ρ => match bind t u ρ with
    | some ρ1 => match body ρ1 with
      | .nx ρ2 => lpF t body us ρ2
      | .ct ρ2 => lpF t body us ρ2
      | .bk ρ2 => .nx ρ2
      | .rt o ρ2 => .rt o ρ2
      | .exc cl ρ2 => .exc cl ρ2
      | .bad => .bad
    | none => .bad
def sFor (t : Tg) (src : Ev → R (List U)) (body : MS) : MS := fun ρ => match src ρ with
  | .ok us ρ1 => lpF t body us ρ1
  | .exc cl r => .exc cl r
  | .bad => .bad
def lpW (t : Ev → R Bool) (body : MS) : Nat → Ev → Fl
  | 0, _ => .bad
  | n + 1, ρ => match t ρ with
    | .ok true ρ1 => match body ρ1 with
      | .nx ρ2 => lpW t body n ρ2
      | .ct ρ2 => lpW t body n ρ2
      | .bk ρ2 => .nx ρ2
      | .rt o ρ2 => .rt o ρ2
      | .exc cl ρ2 => .exc cl ρ2
      | .bad => .bad
    | .ok false ρ1 => .nx ρ1
    | .exc cl r => .exc cl r
    | .bad => .bad
def sWhile (n : Nat) (t : Ev → R Bool) (body : MS) : MS := lpW t body n
abbrev gTg (K : PySem.W.Frag) : Tg → TG
  | .nm i => gName i
  | .tp is => gUnp K is
  | .tq is j => fun v σ H Q => gTup K 2 (gCons (gUnp K is) (gCons (gName j) gNil)) v σ H Q ∨ gLst K 2 (gCons (gUnp K is) (gCons (gName j) gNil)) v σ H Q
def Tg.free (c : Cc) : Tg → Prop
  | .nm i => c.pin i = none
  | .tp is => ∀ j, j ∈ is → c.pin j = none
  | .tq is j => (∀ i, i ∈ is → c.pin i = none) ∧ c.pin j = none
section
variable {K : PySem.W.Frag} {c : Cc} {g : Str → Option Value} {W : WX} {ρ ρ' : Ev} {σ σ' : St} {F F' H H' : Hp} {E E' T T' S S1 S2 : Addr → Prop} {v : V} {o : O} {u : U} {D : Ends}
theorem tp_ok {is : List Nat} (ht : ∀ j, j ∈ is → c.pin j = none) (M : MI K c ρ σ F H E T) (d : Dq K F v u) {os : List O} (e1 : unpE (.sh u) = some os) (e : setAll is os ρ = some ρ') {Q : St → Hp → Prop} (k : ∀ σ' E, (∀ j, j ∉ is → σ'[j]? = σ[j]?) → MI K c ρ' σ' F H E T → Q σ' H) : gUnp K is v σ H Q := by
  obtain ⟨p, vs, S2, rfl, hs, rs, sub⟩ := unpE_ok (S := Em) M.ff (.sh d) e1
  have go : gAll is vs σ H Q := all_set (T := T) ht (M.less fun a x => x.elim id fun y => (sub a y).elim) (fun _ _ x => sub _ x) rs e k
  have hl : vs.length = is.length := by rw [rs.len, setAll_len e]
  rcases hs with hs | hs
  · exact .inl ⟨p, vs, rfl, hs, hl, go⟩
  · exact .inr ⟨p, vs, rfl, hs, hl, go⟩
theorem bind_ok {t : Tg} (ht : t.free c) (M : MI K c ρ σ F H E T) (d : Dq K F v u) (e : bind t u ρ = some ρ') {Q : St → Hp → Prop} (k : ∀ σ' E, (∀ j, j ∉ t.slots → σ'[j]? = σ[j]?) → MI K c ρ' σ' F H E T → Q σ' H) : gTg K t v σ H Q := by
  cases t with
  | nm i =>
    simp only [bind, Option.some.injEq] at e
    subst e
    exact k _ _ (fun j hj => List.getElem?_set_ne fun (z : i = j) => hj (by rw [z]; exact List.mem_cons_self)) (M.em.store (fun _ _ x => x) (.sh d) i ht)
  | tp is =>
    simp only [bind] at e
    cases e1 : unpE (.sh u) with
    | none => rw [e1] at e; cases e
    | some os =>
      rw [e1] at e
      exact tp_ok ht M d e1 e k
  | tq is j =>
    simp only [bind] at e
    split at e
    · rename_i a b e1
      cases e2 : unpE (.sh a) with
      | none => rw [e2] at e; cases e
      | some os =>
        rw [e2] at e
        simp only at e
        cases e3 : setAll is os ρ with
        | none => rw [e3] at e; cases e
        | some ρ1 =>
          rw [e3] at e
          cases e
          obtain ⟨p, vs, S2, rfl, hs, rs, sub⟩ := unpE_ok (S := Em) M.ff (.sh d) e1
          cases rs with
          | @cons v1 vr _ _ _ _ _ r1 rr _ _ _ =>
            cases rr with
            | @cons v2 vr2 _ _ _ _ _ r2 rr2 _ _ _ =>
              cases rr2
              cases r1 with
              | sh d1 =>
                cases r2 with
                | sh d2 =>
                  have go : gCons (gUnp K is) (gCons (gName j) gNil) [v1, v2] σ H Q := by
                    refine ⟨v1, [v2], rfl, tp_ok ht.1 M d1 e2 e3 fun σ1 E1 h1 M1 => ⟨v2, [], rfl, rfl, ?_⟩⟩
                    refine k _ _ (fun i hi => ?_) (M1.em.store (fun _ _ x => x) (.sh d2) j ht.2)
                    have hj : j ≠ i := fun z => hi (by rw [← z]; exact List.mem_cons_self)
                    rw [List.getElem?_set_ne hj]
                    exact h1 i fun z => hi (List.mem_cons_of_mem _ z)
                  rcases hs with hs | hs
                  · exact .inl ⟨p, _, rfl, hs, rfl, go⟩
                  · exact .inr ⟨p, _, rfl, hs, rfl, go⟩
    · cases e
theorem conv_for {t : Tg} {src : Ev → R (List U)} {body : MS} (ht : t.free c) (σ : St) (H : Hp) (h : tS K c g W (sFor t src body) D σ H) : tFor (tI K c g W src) (gTg K t) (tS K c g W body) D σ H := by
  obtain ⟨ρ, F, E, M, h⟩ := h
  unfold sFor at h
  refine ⟨ρ, F, E, Em, M, ?_⟩
  cases e : src ρ with
  | exc cl ρ1 => rw [e] at h; exact fun C F' H' E' a f M' => h C σ F' H' E' a f M'
  | bad => rw [e] at h; exact h
  | ok us ρ1 =>
    rw [e] at h
    simp only at h
    intro J F1 H1 E1 f1 _ M1 I1
    have h1 := h.up f1
    refine ⟨fun i m σ H => ∃ ρ F E us', MI K c ρ σ F H E Em ∧ Same F1 F ∧ us' = us.drop i ∧ m = us'.length ∧ GotS K c g W D F (lpF t body us' ρ), ⟨us.length, ρ1, F1, E1, us, M1, Same.refl _, rfl, rfl, h1⟩, ?_⟩
    rintro i m σ H ⟨ρ, F, E, us', M, f, hd, rfl, h⟩
    obtain ⟨stop, go⟩ := I1 i H F ρ σ E Em f M
    match us', hd, h with
    | [], hd, h =>
      refine .inl ⟨stop ?_, h σ F H E (Same.refl _) M⟩
      have : (us.drop i).length = 0 := by rw [← hd]; rfl
      rw [List.length_drop] at this
      omega
    | u :: us', hd, h =>
      have hu : us[i]? = some u := by
        have : (us.drop i)[0]? = some u := by rw [← hd]; rfl
        rw [List.getElem?_drop] at this
        simpa using this
      have hd' : us' = us.drop (i + 1) := by
        rw [← List.drop_drop, ← hd]
        rfl
      obtain ⟨g1, g2⟩ := go u hu
      refine .inr ⟨g1, fun σ H => ∃ ρ F E, MI K c ρ σ F H E Em ∧ Same F1 F ∧ GotS K c g W D F (lpF t body us' ρ), fun σ' H' ⟨ρ, F, E, M, f, h⟩ => ⟨us'.length, Nat.lt_succ_self _, ρ, F, E, us', M, f, hd', rfl, h⟩, fun x H' y => ?_⟩
      obtain ⟨F2, f2, _, M2, d2⟩ := g2 x H' y
      have h := h.up f2
      simp only [lpF] at h
      cases e2 : bind t u ρ with
      | none => rw [e2] at h; exact h.elim
      | some ρ2 =>
        rw [e2] at h
        simp only at h
        refine bind_ok ht M2 d2 e2 fun σ E _ M => ?_
        refine ⟨ρ2, F2, E, M, ?_⟩
        cases e3 : body ρ2 with
        | nx ρ3 => rw [e3] at h; exact fun σ F H E q M => ⟨ρ3, F, E, M, f.trans (f2.trans q), GotS.up h q⟩
        | ct ρ3 => rw [e3] at h; exact fun σ F H E q M => ⟨ρ3, F, E, M, f.trans (f2.trans q), GotS.up h q⟩
        | bk ρ3 => rw [e3] at h; exact h
        | rt o ρ3 => rw [e3] at h; exact h
        | exc cl ρ3 => rw [e3] at h; exact h
        | bad => rw [e3] at h; exact h
theorem conv_while {n : Nat} {t : Ev → R Bool} {body : MS} (σ : St) (H : Hp) (h : tS K c g W (sWhile n t body) D σ H) : tWhile (tMT K c g W t) (tS K c g W body) D σ H := by
  obtain ⟨ρ, F, E, M, h⟩ := h
  refine ⟨fun m σ H => ∃ ρ F E, MI K c ρ σ F H E Em ∧ GotS K c g W D F (lpW t body m ρ), ⟨n, ρ, F, E, M, h⟩, ?_⟩
  rintro m σ H ⟨ρ, F, E, M, h⟩
  cases m with
  | zero => exact h.elim
  | succ m =>
    simp only [lpW] at h
    refine ⟨ρ, F, E, Em, M, ?_⟩
    cases e : t ρ with
    | exc cl ρ1 => rw [e] at h; exact fun C F' H' E' a f M' => h C σ F' H' E' a f M'
    | bad => rw [e] at h; exact h
    | ok k ρ1 =>
      rw [e] at h
      intro k' F1 H1 E1 S1 f1 k1 M1 d1 r1
      cases r1
      cases k with
      | false => rw [if_neg Bool.false_ne_true]; exact h σ F1 H1 E1 f1 (M1.less fun _ x => x.elim)
      | true =>
        rw [if_pos rfl]
        simp only at h
        have h := GotS.up h f1
        refine ⟨fun σ H => ∃ ρ F E, MI K c ρ σ F H E Em ∧ GotS K c g W D F (lpW t body m ρ), fun σ' H' q => ⟨m, Nat.lt_succ_self _, q⟩, ρ1, F1, E1, M1.less fun _ x => x.elim, ?_⟩
        cases e3 : body ρ1 with
        | nx ρ3 => rw [e3] at h; exact fun σ F H E q M => ⟨ρ3, F, E, M, GotS.up h q⟩
        | ct ρ3 => rw [e3] at h; exact fun σ F H E q M => ⟨ρ3, F, E, M, GotS.up h q⟩
        | bk ρ3 => rw [e3] at h; exact h
        | rt o ρ3 => rw [e3] at h; exact h
        | exc cl ρ3 => rw [e3] at h; exact h
        | bad => rw [e3] at h; exact h
end

section
variable {X : Cx} {c : Cc} {W : WX} {e e1 e2 : Expr} {es : List Expr} {a b : Ag} {as : List Ag} {m : ME} {t : Ev → R Bool} {st : Stmt} {rest s1 s2 : List Stmt} {n n1 n2 : MS} {pos p2 : Pos} {x y : Str} {i j : Nat}
theorem ps_conv {t t' : TS} (h : PS X st t) (k : ∀ D σ H, t' D σ H → t D σ H) : PS X st t' := ⟨fun pins s σ H D I q => h.run pins s σ H D I (k D σ H q)⟩
theorem pss_conv {t t' : TS} {st : List Stmt} (h : PSs X st t) (k : ∀ D σ H, t' D σ H → t D σ H) : PSs X st t' := ⟨fun pins s σ H D I q => h.run pins s σ H D I (k D σ H q)⟩
theorem s_seq (h : PSM X c W st n1) (h2 : PSsM X c W rest n2) : PSsM X c W (st :: rest) (sSeq n1 n2) := pss_conv (pss_cons h h2) fun D σ H q => conv_seq σ H q
theorem s_one (h : PSM X c W st n) : PSsM X c W [st] n := pss_one h
theorem s_nil : PSsM X c W [] sNil := pss_conv pss_nil fun D σ H ⟨ρ, F, E, M, h⟩ => h σ F H E (Same.refl _) M
theorem s_set (i : Nat) (hN : X.N.Nodup) (hi : X.N[i]? = some x) (hx : Loc X.env.scope x) (hp : c.pin i = none) (he : PM X c W e m) (hs : swapsWith e (some (.Name x p2)) pos.line X.env = pure false := by rfl)
    (hf : X.fn x = true ∨ X.env.scope.names.lookup x = some .local := by first | exact .inl rfl | exact .inr rfl) : PSM X c W (.Assign [.Name x p2] e pos) (sSet i m) :=
  ps_conv (ps_set hN hi hx he hs hf) fun D σ H q => conv_set hp σ H q
theorem s_drop (he : PM X c W e m) (hs : swapsWith e none pos.line X.env = pure false := by rfl) : PSM X c W (.Expr e pos) (sDrop m) := ps_conv (ps_expr he hs) fun D σ H q => conv_drop σ H q
theorem s_ret (he : PM X c W e m) : PSM X c W (.Return (some e) pos) (sRet m) := ps_conv (ps_ret he) fun D σ H q => conv_ret σ H q
theorem s_if (ht : PTM X c W e t) (h1 : PSsM X c W s1 n1) (h2 : PSsM X c W s2 n2) : PSM X c W (.If e s1 s2 pos) (sIf t n1 n2) := ps_conv (ps_if ht h1 h2) fun D σ H q => conv_if σ H q
theorem s_aug {op : Operator} {r : R2} {fo : O → O → Ev → R O} (sv : Serves X.K c X.mg W r fo) (ho : PIp X op r) (i : Nat) (hN : X.N.Nodup) (hi : X.N[i]? = some x) (hx : Loc X.env.scope x) (hp : c.pin i = none) (he : PX X c W e a)
    (hf : X.fn x = true ∨ X.env.scope.names.lookup x = some .local := by first | exact .inl rfl | exact .inr rfl) : PSM X c W (.AugAssign (.Name x p2) op e pos) (sAug fo i a) :=
  ps_conv (ps_aug hN hi hx he ho hf) fun D σ H q => conv_aug sv hp σ H q
theorem pg_or {tg : Expr} {t1 t2 : TG} (h1 : PG X tg t1) (h2 : PG X tg t2) : PG X tg (fun v σ H Q => t1 v σ H Q ∨ t2 v σ H Q) := ⟨fun pins s σ H v u Q I r q => q.elim (h1.run pins s σ H v u Q I r) (h2.run pins s σ H v u Q I r)⟩
theorem pgs_all_nil : PGs X [] (gAll []) := pgs_nil
theorem pgs_all_cons {is : List Nat} (hN : X.N.Nodup) (hi : X.N[i]? = some x) (hx : Loc X.env.scope x) (h2 : PGs X es (gAll is)) (hs : (assignEach (.Name x pos :: es) X.env).map (·.2) = assign (.Name x pos) X.env :: (assignEach es X.env).map (·.2) := by rfl)
    (hf : X.fn x = true ∨ X.env.scope.names.lookup x = some .local := by first | exact .inl rfl | exact .inr rfl) : PGs X (.Name x pos :: es) (gAll (i :: is)) := pgs_cons (pg_name hN hi hx hf) h2 hs
theorem g_tp {is : List Nat} {k : Nat} (hc : X.calm = true) (h : PGs X es (gAll is)) (hn : (assignEach es X.env).length = is.length := by rfl) (hst : (assignEach es X.env).findIdx? (·.1) = none := by rfl) : PG X (.Tuple es k pos) (gTg X.K (.tp is)) :=
  pg_or (pg_tup hc h hn hst) (pg_lst hc h hn hst)
theorem g_nm (i : Nat) (hN : X.N.Nodup) (hi : X.N[i]? = some x) (hx : Loc X.env.scope x) (hf : X.fn x = true ∨ X.env.scope.names.lookup x = some .local := by first | exact .inl rfl | exact .inr rfl) : PG X (.Name x pos) (gTg X.K (.nm i)) := pg_name hN hi hx hf
theorem s_unp {is : List Nat} {tg : Expr} (hg : PG X tg (gTg X.K (.tp is))) (hp : ∀ j, j ∈ is → c.pin j = none) (he : PM X c W e m) (hs : swapsWithSole [tg] e pos.line X.env = pure false := by rfl) (hw : swappedStores [tg] e X.env = pure none := by rfl)
    (h1 : (assignEach [tg] X.env).map (·.2) = [assign tg X.env] := by rfl) : PSM X c W (.Assign [tg] e pos) (sUnp is m) := ps_conv (ps_asg he hg hs hw h1) fun D σ H q => conv_unp hp σ H q
theorem s_for {tg it : Expr} {t : Tg} {src : Ev → R (List U)} {body : List Stmt} (hp : PassesOwn (model X.prog X.w) X.A X.env X.xe) (hc : X.calm = true) (hi : PI X tg it (tI X.K c X.mg W src)) (hg : PG X tg (gTg X.K t)) (ht : t.free c) (hb : PSsM X c W body n) (hs : ∀ x, foldedSetIterable it X.env x = pure x := by intro _; rfl) :
    PSM X c W (.For tg it body [] pos) (sFor t src n) := ps_conv (ps_for hp hc hi hg hb hs) fun D σ H q => conv_for ht σ H q
theorem s_while {body : List Stmt} (k : Nat) (hp : PassesOwn (model X.prog X.w) X.A X.env X.xe) (ht : PTM X c W e t) (hb : PSsM X c W body n) : PSM X c W (.While e body [] pos) (sWhile k t n) := ps_conv (ps_while hp ht hb) fun D σ H q => conv_while σ H q
theorem s_raise {cl msg : Str} {C : Addr} {k : Nat} {B newId initId : String} {bmB : List Value} (hc : X.calm = true) (tk : Takes X W) (Fb : ExcBaseFacts B newId initId bmB) (q : PySem.W.excIn X.K C bmB newId = true) (gC : X.mg cl = some (.ref C)) (kC : PySem.W.keepIn X.K (.ref C) = true) (r : Raises X (.ref C)) (hg : Gl X cl)
    (hdb : (cl == ("__debug__" : Str)) = false := by decide) {p q2 : Pos} : PSM X c W (.Raise (some (.Call (.Name cl p) [.Constant (.str msg) k q2] [] p2)) none pos) (sRaise cl) :=
  ps_conv (ps_raise hc tk (pmk_own Fb q gC kC r hg hdb)) fun D σ H ⟨ρ, F, E, M, h⟩ => h C σ F H E gC (Same.refl _) M
end
end MM
namespace MM
open PySem L2

section
variable {K : PySem.W.Frag} {c : Cc} {g : Str → Option Value} {W : WX} {ρ ρ' : Ev} {σ σ' : St} {F F' H H' : Hp} {E E' T T' S S1 S2 : Addr → Prop} {v : V} {o : O} {u : U} {D : Ends} {us ws : List U} {vs : List V}
theorem iok_list {p : Addr} (h : Rd F p (.lst vs)) (d : DqAll K F vs us) : Iok K c F (Itl K p) us := by
  intro k H F1 ρ σ E T f M
  have hs : SqL K H p vs := .inl (Rd.mono (f.trans M.ff) h)
  refine ⟨fun hk => ⟨vs, hs, by rw [d.len]; exact hk⟩, fun u hu => ?_⟩
  obtain ⟨x, hx, dx⟩ := d.get hu
  refine ⟨⟨vs, x, hs, hx⟩, fun y H' ⟨e, q⟩ => ?_⟩
  subst e
  have : some x = some y := hx.symm.trans (q vs hs)
  cases this
  exact ⟨F1, Same.refl _, fun _ _ => rfl, M, Dq.mono f _ _ dx⟩
theorem iok_tup {p : Addr} (h : SqT K F p vs) (d : DqAll K F vs us) : Iok K c F (Itt K p) us := by
  intro k H F1 ρ σ E T f M
  have hs : SqT K H p vs := SqT.mono (f.trans M.ff) h
  refine ⟨fun hk => ⟨vs, hs, by rw [d.len]; exact hk⟩, fun u hu => ?_⟩
  obtain ⟨x, hx, dx⟩ := d.get hu
  refine ⟨⟨vs, x, hs, hx⟩, fun y H' ⟨e, q⟩ => ?_⟩
  subst e
  have : some x = some y := hx.symm.trans (q vs hs)
  cases this
  exact ⟨F1, Same.refl _, fun _ _ => rfl, M, Dq.mono f _ _ dx⟩
def signs (x : Str) : List U := x.cps.toList.map fun k => .str ⟨#[k]⟩
theorem iok_str {x : Str} : Iok K c F (Its x) (signs x) := by
  intro k H F1 ρ σ E T f M
  refine ⟨fun hk => ?_, fun u hu => ?_⟩
  · show x.cps.size ≤ k
    simpa [signs] using hk
  · unfold signs at hu
    rw [List.getElem?_map] at hu
    have hx : ∃ n, x.cps[k]? = some n ∧ u = .str ⟨#[n]⟩ := by
      cases e : x.cps.toList[k]? with
      | none => rw [e] at hu; cases hu
      | some n =>
        rw [e] at hu
        exact ⟨n, by rw [← Array.getElem?_toList]; exact e, (Option.some.inj hu).symm⟩
    obtain ⟨n, hn, rfl⟩ := hx
    refine ⟨?_, fun y H' ⟨e, n', hn', q⟩ => ?_⟩
    · show k < x.cps.size
      rcases Nat.lt_or_ge k x.cps.size with z | z
      · exact z
      · rw [Array.getElem?_eq_none z] at hn; cases hn
    · subst e
      rw [hn] at hn'
      cases hn'
      subst q
      exact ⟨F1, Same.refl _, fun _ _ => rfl, M, .str _⟩
def rngU (lo : Int) : Nat → List U
  | 0 => []
  | n + 1 => .int lo :: rngU (lo + 1) n
def rngC (lo c : Int) : Nat → List U
  | 0 => []
  | n + 1 => .int lo :: rngC (lo + c) c n
theorem rngU_len : ∀ (n : Nat) (lo : Int), (rngU lo n).length = n
  | 0, _ => rfl
  | n + 1, lo => by simp [rngU, rngU_len n]
theorem rngC_len : ∀ (n : Nat) (lo d : Int), (rngC lo d n).length = n
  | 0, _, _ => rfl
  | n + 1, lo, d => by simp [rngC, rngC_len n]
theorem rngU_get : ∀ (n k : Nat) (lo : Int) (u : U), (rngU lo n)[k]? = some u → u = .int (lo + k)
  | 0, k, lo, u, h => by simp [rngU] at h
  | n + 1, 0, lo, u, h => by
    simp [rngU] at h
    subst h
    simp
  | n + 1, k + 1, lo, u, h => by
    simp only [rngU, List.getElem?_cons_succ] at h
    rw [rngU_get n k _ u h]
    congr 1
    omega
theorem rngC_get : ∀ (n k : Nat) (lo d : Int) (u : U), (rngC lo d n)[k]? = some u → u = .int (lo + k * d)
  | 0, k, lo, d, u, h => by simp [rngC] at h
  | n + 1, 0, lo, d, u, h => by
    simp [rngC] at h
    subst h
    simp
  | n + 1, k + 1, lo, d, u, h => by
    simp only [rngC, List.getElem?_cons_succ] at h
    rw [rngC_get n k _ d u h]
    congr 1
    rw [Int.add_assoc]
    congr 1
    have : ((k + 1 : Nat) : Int) = (k : Int) + 1 := by omega
    rw [this, Int.add_mul, Int.one_mul, Int.add_comm]
theorem iok_rng {lo : Int} {n : Nat} : Iok K c F (Itr lo n) (rngU lo n) := by
  intro k H F1 ρ σ E T f M
  refine ⟨fun hk => by rw [rngU_len] at hk; exact hk, fun u hu => ⟨?_, fun y H' ⟨e, q⟩ => ?_⟩⟩
  · show k < n
    rcases Nat.lt_or_ge k n with z | z
    · exact z
    · rw [List.getElem?_eq_none (by rw [rngU_len]; exact z)] at hu; cases hu
  · subst e
    subst q
    rw [rngU_get n k lo u hu]
    exact ⟨F1, Same.refl _, fun _ _ => rfl, M, .int _⟩
theorem iok_rngC {lo d : Int} {n : Nat} : Iok K c F (Itc lo d n) (rngC lo d n) := by
  intro k H F1 ρ σ E T f M
  refine ⟨fun hk => by rw [rngC_len] at hk; exact hk, fun u hu => ⟨?_, fun y H' ⟨e, q⟩ => ?_⟩⟩
  · show k < n
    rcases Nat.lt_or_ge k n with z | z
    · exact z
    · rw [List.getElem?_eq_none (by rw [rngC_len]; exact z)] at hu; cases hu
  · subst e
    subst q
    rw [rngC_get n k lo d u hu]
    exact ⟨F1, Same.refl _, fun _ _ => rfl, M, .int _⟩
theorem new_tup (M : MI K c ρ σ F H E T) {p : Addr} (hp : H p = none) (d : DqAll K F vs us) : ∃ F', Same F F' ∧ (∀ a, T a → (upd H p (.tup vs)) a = H a) ∧ MI K c ρ σ F' (upd H p (.tup vs)) E T ∧ Dq K F' (.ref p) (.tuple us) := by
  have hne : ∀ a, T a → a ≠ p := fun a x z => by subst z; exact (M.own _ (.inr x)).2.1 hp
  obtain ⟨F', f, M2, dv⟩ := (M.new hp).freeze (o := .ot (shs us)) (u := .tuple us) (v := .ref p) (fun a x y => hne a x y) (.ot upd_same rfl (shs_ok d) (fun a x => x.elim) (fun x => x)) (by simp only [viewO, viewOs_shs])
  exact ⟨F', f, fun a x => upd_ne (hne a x), M2, dv⟩
def enumU (k : Nat) : List U → List U
  | [] => []
  | u :: us => .tuple [.int (k : Nat), u] :: enumU (k + 1) us
theorem enumU_len : ∀ (us : List U) (k : Nat), (enumU k us).length = us.length
  | [], _ => rfl
  | u :: us, k => by simp [enumU, enumU_len us]
theorem enumU_get : ∀ (us : List U) (k i : Nat) (w : U), (enumU k us)[i]? = some w → ∃ u, us[i]? = some u ∧ w = .tuple [.int ((k + i : Nat) : Int), u]
  | [], k, i, w, h => by simp [enumU] at h
  | u :: us, k, 0, w, h => by
    simp [enumU] at h
    exact ⟨u, rfl, by rw [← h]; simp⟩
  | u :: us, k, i + 1, w, h => by
    simp only [enumU, List.getElem?_cons_succ] at h
    obtain ⟨u', h1, h2⟩ := enumU_get us (k + 1) i w h
    exact ⟨u', by simpa using h1, by rw [h2]; congr 3; omega⟩
theorem iok_enum {p : Addr} (h : Rd F p (.lst vs)) (d : DqAll K F vs us) : Iok K c F (Ite K p) (enumU 0 us) := by
  intro k H F1 ρ σ E T f M
  have hs : SqL K H p vs := .inl (Rd.mono (f.trans M.ff) h)
  refine ⟨fun hk => ⟨vs, hs, by rw [d.len, ← enumU_len us 0]; exact hk⟩, fun w hw => ?_⟩
  obtain ⟨u, hu, rfl⟩ := enumU_get us 0 k w hw
  obtain ⟨x, hx, dx⟩ := d.get hu
  refine ⟨⟨vs, x, hs, hx⟩, fun y H' ⟨t, x', e1, e2, e3, q⟩ => ?_⟩
  subst e1; subst e3
  have : some x = some x' := hx.symm.trans (q vs hs)
  cases this
  have dd : DqAll K F1 [.int (k : Nat), x] [.int ((0 + k : Nat) : Int), u] := by
    rw [Nat.zero_add]
    exact .cons (.int _) (.cons (Dq.mono f _ _ dx) .nil)
  exact new_tup M e2 dd
def zipU : List U → List U → List U
  | u :: us, w :: ws => .tuple [u, w] :: zipU us ws
  | _, _ => []
def itU : U → Option (List U)
  | .list us => some us
  | .tuple us => some us
  | .str x => some (signs x)
  | _ => none
def srcA (a : Ag) : Ev → R (List U) := fun ρ => match evA a ρ with
  | .ok d ρ1 => match d with
    | .v i => match ρ1[i]? with
      | some (some (.sh u)) => match itU u with
        | some us => .ok us ρ1
        | none => .bad
      | _ => .bad
    | .o x => match viewO x with
      | some u => match itU u with
        | some us => .ok us ρ1
        | none => .bad
      | none => .bad
  | .exc cl r => .exc cl r
  | .bad => .bad
abbrev tSeq3 (K : PySem.W.Frag) (tl : TE) : TI := fun σ H P => tl σ H fun x H1 => (∃ a, x = .ref a ∧ (∃ xs, SqL K H1 a xs) ∧ P (Itl K a) H1) ∨ (∃ a, x = .ref a ∧ (∃ xs, SqT K H1 a xs) ∧ P (Itt K a) H1) ∨ ∃ s, x = .str s ∧ P (Its s) H1
theorem it_ok {P : It → Hp → Prop} (M : MI K c ρ σ F H E T) (d : Dq K F v u) (e : itU u = some us) (h : GotI K c g W σ F H T P (.ok us ρ)) : (∃ a, v = .ref a ∧ (∃ xs, SqL K H a xs) ∧ P (Itl K a) H) ∨ (∃ a, v = .ref a ∧ (∃ xs, SqT K H a xs) ∧ P (Itt K a) H) ∨ ∃ s, v = .str s ∧ P (Its s) H := by
  cases d with
  | lst hr ha =>
    cases e
    exact .inl ⟨_, rfl, ⟨_, .inl (Rd.mono M.ff (.inl hr))⟩, h _ F H E (Same.refl F) (fun _ _ => rfl) M (iok_list (.inl hr) ha)⟩
  | tup hr ha =>
    cases e
    exact .inr (.inl ⟨_, rfl, ⟨_, SqT.mono M.ff hr⟩, h _ F H E (Same.refl F) (fun _ _ => rfl) M (iok_tup hr ha)⟩)
  | str x =>
    cases e
    exact .inr (.inr ⟨x, rfl, h _ F H E (Same.refl F) (fun _ _ => rfl) M iok_str⟩)
  | _ => simp [itU] at e
theorem GotI.weak {F1 H1 : Hp} {T1 : Addr → Prop} {P : It → Hp → Prop} {r : R (List U)} (h : GotI K c g W σ F H T P r) (f1 : Same F F1) (k1 : ∀ a, T a → H1 a = H a) (t1 : ∀ a, T a → T1 a) : GotI K c g W σ F1 H1 T1 P r := by
  cases r with
  | ok us ρ' => exact fun J F' H' E' f k M I => h J F' H' E' (f1.trans f) (fun a x => (k a (t1 a x)).trans (k1 a x)) (M.less t1) I
  | exc cl ρ' => exact fun C F' H' E' a q M => h C F' H' E' a (f1.trans q) M
  | bad => exact h
theorem conv_src {a : Ag} (σ : St) (H : Hp) (P : It → Hp → Prop) (h : tI K c g W (srcA a) σ H P) : tSeq3 K (tAg K c g W a) σ H P := by
  obtain ⟨ρ, F, E, T, M, h⟩ := h
  unfold srcA at h
  refine run_ag M ?_
  cases e1 : evA a ρ with
  | exc cl ρ1 => rw [e1] at h; exact h
  | bad => rw [e1] at h; exact h
  | ok d ρ1 =>
    rw [e1] at h
    simp only at h
    intro x F1 H1 E1 S1 f1 k1 M1 d1 r1
    cases d with
    | v i =>
      simp only at h
      cases e2 : ρ1[i]? with
      | none => rw [e2] at h; exact h.elim
      | some y =>
        rw [e2] at h
        cases y with
        | none => exact h.elim
        | some o =>
          cases o with
          | sh u =>
            simp only at h
            cases e3 : itU u with
            | none => rw [e3] at h; exact h.elim
            | some us =>
              rw [e3] at h
              obtain ⟨v, S', hv, r, _⟩ := M1.env.get e2
              have r1 : σ[i]? = some (some x) := r1
              rw [hv] at r1
              cases r1
              cases r with
              | sh dv => exact it_ok (M1.less fun a x => .inl x) dv e3 (GotI.weak h f1 k1 fun a x => x)
          | _ => exact h.elim
    | o y =>
      simp only at h
      cases e2 : viewO y with
      | none => rw [e2] at h; exact h.elim
      | some u =>
        rw [e2] at h
        simp only at h
        cases e3 : itU u with
        | none => rw [e3] at h; exact h.elim
        | some us =>
          rw [e3] at h
          obtain ⟨F2, f2, M2, dv⟩ := M1.freeze d1 r1 e2
          exact it_ok M2 dv e3 (GotI.weak h (f1.trans f2) k1 fun a x => x)
def intsO : List O → Option (List Int)
  | [] => some []
  | o :: os => match intE o with
    | some i => match intsO os with
      | some is => some (i :: is)
      | none => none
    | none => none
def near (i : Int) : Bool := decide (-(2 ^ 62) ≤ i) && decide (i < 2 ^ 62)
def rngF : List Int → Option (List U)
  | [j] => if near j then some (rngU 0 j.toNat) else none
  | [i, j] => if near i && near j then some (rngU i (j - i).toNat) else none
  | [i, j, d] => if near i && near j && decide (d = -1) then some (rngC i (-1) (i - j).toNat) else none
  | _ => none
def srcR (as : List Ag) : Ev → R (List U) := fun ρ => match evAs as ρ with
  | .ok ds ρ1 => match osAt ρ1 ds with
    | some os => match intsO os with
      | some is => match rngF is with
        | some us => .ok us ρ1
        | none => .bad
      | none => .bad
    | none => .bad
  | .exc cl r => .exc cl r
  | .bad => .bad
theorem intsO_ok : ∀ {os : List O} {vs : List V} {is : List Int}, Bor K F H E T vs os → intsO os = some is → vs = is.map V.int
  | [], _, _, b, e => by cases b; cases e; rfl
  | o :: os, _, _, b, e => by
    cases b with
    | cons h t =>
      simp only [intsO] at e
      cases q1 : intE o with
      | none => rw [q1] at e; cases e
      | some i =>
        rw [q1] at e
        simp only at e
        cases q2 : intsO os with
        | none => rw [q2] at e; cases e
        | some is =>
          rw [q2] at e
          cases e
          obtain ⟨S, r, _⟩ := h
          rw [intE_ok r q1, intsO_ok t q2]
          rfl
theorem near_ok {i : Int} (h : near i = true) : -(2 ^ 62) ≤ i ∧ i < 2 ^ 62 := by
  unfold near at h
  rw [Bool.and_eq_true] at h
  exact ⟨of_decide_eq_true h.1, of_decide_eq_true h.2⟩
theorem evAs_len : ∀ {as : List Ag} {ρ ρ1 : Ev} {ds : List Dn}, evAs as ρ = .ok ds ρ1 → ds.length = as.length
  | [], _, _, _, e => by simp only [evAs] at e; cases e; rfl
  | a :: as, ρ, ρ1, ds, e => by
    simp only [evAs] at e
    cases e1 : evA a ρ with
    | exc cl r => rw [e1] at e; cases e
    | bad => rw [e1] at e; cases e
    | ok d ρ2 =>
      rw [e1] at e
      simp only at e
      cases e2 : evAs as ρ2 with
      | exc cl r => rw [e2] at e; cases e
      | bad => rw [e2] at e; cases e
      | ok ds' ρ3 =>
        rw [e2] at e
        cases e
        simp [evAs_len e2]
inductive RngR (K : PySem.W.Frag) (c : Cc) (F : Hp) : List Int → List U → Prop
  | r1 {j us} : -(2 ^ 62) ≤ j → j < 2 ^ 62 → Iok K c F (Itr 0 j.toNat) us → RngR K c F [j] us
  | r2 {i j us} : (-(2 ^ 62) ≤ i ∧ i < 2 ^ 62 ∧ -(2 ^ 62) ≤ j ∧ j < 2 ^ 62) → Iok K c F (Itr i (j - i).toNat) us → RngR K c F [i, j] us
  | r3 {i j d n us} : RgC i j d n → Iok K c F (Itc i d n) us → RngR K c F [i, j, d] us
theorem rngF_ok {is : List Int} (e4 : rngF is = some us) : RngR K c F is us := by
  unfold rngF at e4
  split at e4
  · split at e4
    · rename_i hn
      cases e4
      have := near_ok hn
      exact .r1 this.1 this.2 iok_rng
    · cases e4
  · split at e4
    · rename_i hn
      cases e4
      rw [Bool.and_eq_true] at hn
      have h1 := near_ok hn.1
      have h2 := near_ok hn.2
      exact .r2 ⟨h1.1, h1.2, h2.1, h2.2⟩ iok_rng
    · cases e4
  · split at e4
    · rename_i hn
      cases e4
      rw [Bool.and_eq_true, Bool.and_eq_true] at hn
      have h1 := near_ok hn.1.1
      have h2 := near_ok hn.1.2
      have hd := of_decide_eq_true hn.2
      subst hd
      exact .r3 (RgC.neg h1.1 h1.2 h2.1 h2.2) iok_rngC
    · cases e4
  · cases e4
theorem conv_rng {as : List Ag} (σ : St) (H : Hp) (P : It → Hp → Prop) (h : tI K c g W (srcR as) σ H P) : tMA K c g W as σ H fun vs H1 => ∃ is us F1, vs = is.map V.int ∧ is.length = as.length ∧ RngR K c F1 is us ∧ ∀ J, Iok K c F1 J us → P J H1 := by
  obtain ⟨ρ, F, E, T, M, h⟩ := h
  unfold srcR at h
  refine ⟨ρ, F, E, T, M, ?_⟩
  cases e1 : evAs as ρ with
  | exc cl ρ1 => rw [e1] at h; exact h
  | bad => rw [e1] at h; exact h
  | ok ds ρ1 =>
    rw [e1] at h
    simp only at h
    intro vs F1 H1 E1 S1 f1 k1 M1 d1 r1
    cases e2 : osAt ρ1 ds with
    | none => rw [e2] at h; exact h.elim
    | some os =>
      rw [e2] at h
      simp only at h
      cases e3 : intsO os with
      | none => rw [e3] at h; exact h.elim
      | some is =>
        rw [e3] at h
        simp only at h
        cases e4 : rngF is with
        | none => rw [e4] at h; exact h.elim
        | some us =>
          rw [e4] at h
          have hv := intsO_ok (osAt_ok M1 r1 (fun a x => .inr x) e2) e3
          refine ⟨is, us, F1, hv, ?_, rngF_ok e4, fun J I => h J F1 H1 E1 f1 k1 (M1.less fun a x => .inl x) I⟩
          have l1 := r1.len
          rw [hv, List.length_map] at l1
          rw [l1, evAs_len e1]
def shL : O → Option (List U)
  | .sh (.list us) => some us
  | _ => none
theorem shL_ok (r : RpO K F H v o S) (e : shL o = some us) : ∃ p vs, v = .ref p ∧ Rd F p (.lst vs) ∧ DqAll K F vs us := by
  unfold shL at e
  split at e
  · cases e; cases r with | sh d => cases d with | lst h a => exact ⟨_, _, rfl, .inl h, a⟩
  · cases e
def src1 (f : List U → List U) (as : List Ag) : Ev → R (List U) := fun ρ => match evAs as ρ with
  | .ok ds ρ1 => match osAt ρ1 ds with
    | some [o] => match shL o with
      | some us => .ok (f us) ρ1
      | none => .bad
    | _ => .bad
  | .exc cl r => .exc cl r
  | .bad => .bad
theorem conv_src1 {f : List U → List U} {J : Addr → List V → It} (hJ : ∀ {F p vs us}, Rd F p (.lst vs) → DqAll K F vs us → Iok K c F (J p vs) (f us)) {as : List Ag} (σ : St) (H : Hp) (P : It → Hp → Prop) (h : tI K c g W (src1 f as) σ H P) :
    tMA K c g W as σ H fun vs H1 => ∃ a xs, vs = [.ref a] ∧ SqL K H1 a xs ∧ P (J a xs) H1 := by
  obtain ⟨ρ, F, E, T, M, h⟩ := h
  unfold src1 at h
  refine ⟨ρ, F, E, T, M, ?_⟩
  cases e1 : evAs as ρ with
  | exc cl ρ1 => rw [e1] at h; exact h
  | bad => rw [e1] at h; exact h
  | ok ds ρ1 =>
    rw [e1] at h
    simp only at h
    intro vs F1 H1 E1 S1 f1 k1 M1 d1 r1
    cases e2 : osAt ρ1 ds with
    | none => rw [e2] at h; exact h.elim
    | some os =>
      rw [e2] at h
      match os, h, e2 with
      | [o], h, e2 =>
        simp only at h
        cases e3 : shL o with
        | none => rw [e3] at h; exact h.elim
        | some us =>
          rw [e3] at h
          obtain ⟨v, S, rfl, r⟩ := bor1 (osAt_ok M1 r1 (fun a x => .inr x) e2)
          obtain ⟨p, vs, rfl, hr, da⟩ := shL_ok r e3
          exact ⟨p, vs, rfl, .inl (Rd.mono M1.ff hr), h _ F1 H1 E1 f1 k1 (M1.less fun a x => .inl x) (hJ hr da)⟩
end

section
variable {X : Cx} {c : Cc} {W : WX} {e e1 e2 e3 tg : Expr} {es : List Expr} {a b : Ag} {as : List Ag} {pos p p2 tpos : Pos} {elts : List Expr} {kk : Nat}
abbrev PIM (X : Cx) (c : Cc) (W : WX) (tg e : Expr) (src : Ev → R (List U)) : Prop := PI X tg e (tI X.K c X.mg W src)
theorem pi_conv {w w' : TI} (h : PI X tg e w) (k : ∀ σ H P, w' σ H P → w σ H P) : PI X tg e w' := ⟨fun pins s σ H P I q => h.run pins s σ H P I (k σ H P q)⟩
theorem pi_seq3 {tl : TE} (h : PE X e tl) : PI X tg e (tSeq3 X.K tl) := by
  refine ⟨fun pins s σ H P I q => ?_⟩
  refine thn (h.run pins s σ H _ I q) fun v s1 ⟨x, H1, I1, r1, q1⟩ => ?_
  -- which one it is, is known now: the expression's value is x
  rcases q1 with ⟨a, rfl, ⟨xs, hq⟩, q1⟩ | ⟨a, rfl, ⟨xs, hq⟩, q1⟩ | ⟨z, rfl, q1⟩
  · obtain ⟨its, _, pl, _⟩ := I1.list hq
    have er : v = .ref a := r1
    subst er
    have tr := turn_list (P := X.prog) (w := X.w) (K := X.K) (tg := tg) a s1.heap.objs.size
    exact PySem.wpAny_pyIter_list pl.isList (pi_one (tk := s1.toks) I1 _ tr ⟨_, Heap.get?_push_size _ rfl, rfl, rfl⟩ q1)
  · obtain ⟨its, _, pl, _⟩ := I1.tuple hq
    have er : v = .ref a := r1
    subst er
    have tr := turn_tuple (P := X.prog) (w := X.w) (K := X.K) (tg := tg) a s1.heap.objs.size
    exact PySem.wpAny_pyIter_tuple (show s1.heap.IsTuple a its.toArray from pl) (pi_one (tk := s1.toks) I1 _ tr ⟨_, Heap.get?_push_size _ rfl, rfl, rfl⟩ q1)
  · obtain ⟨t, rfl⟩ := r1
    cases hz : z.cps.all (· < 128) with
    | false =>
      have tr := turn_str (P := X.prog) (w := X.w) (K := X.K) (tg := tg) s1.heap.objs.size z t "str_iterator" (.inr rfl)
      exact wpAny_pyIter_wide hz (pi_one (tk := s1.toks) I1 _ tr ⟨_, Heap.get?_push_size _ rfl, rfl, rfl⟩ q1)
    | true =>
      have tr := turn_str (P := X.prog) (w := X.w) (K := X.K) (tg := tg) s1.heap.objs.size z t "str_ascii_iterator" (.inl rfl)
      exact wpAny_pyIter_ascii hz (pi_one (tk := s1.toks) I1 _ tr ⟨_, Heap.get?_push_size _ rfl, rfl, rfl⟩ q1)
theorem tma_mono {K : PySem.W.Frag} {g : Str → Option Value} {σ : St} {H : Hp} {Q Q' : List V → Hp → Prop} (h : tMA K c g W as σ H Q) (k : ∀ vs H, Q vs H → Q' vs H) : tMA K c g W as σ H Q' := by
  obtain ⟨ρ, F, E, T, M, h⟩ := h
  refine ⟨ρ, F, E, T, M, ?_⟩
  cases e : evAs as ρ with
  | ok ds ρ1 => rw [e] at h; exact fun vs F1 H1 E1 S1 f1 k1 M1 d1 r1 => k _ _ (h vs F1 H1 E1 S1 f1 k1 M1 d1 r1)
  | exc cl ρ1 => rw [e] at h; exact h
  | bad => rw [e] at h; exact h
theorem i_seq (h : PX X c W e a) : PIM X c W tg e (srcA a) := pi_conv (pi_seq3 h) fun σ H P q => conv_src σ H P q
theorem i_r1 (hg : Gl X "range") (hm : X.mg "range" = none) (ha : PAM X c W [e1] [a]) (hs : starEach [e1] X.env = [(false, eval e1 X.env)] := by rfl) : PIM X c W tg (.Call (.Name "range" p) [e1] [] pos) (srcR [a]) :=
  pi_conv (pi_range1 (ta := tMA X.K c X.mg W [a]) hg hm ha hs) fun σ H P q => tma_mono (conv_rng σ H P q) fun vs H1 ⟨is, us, F1, hv, hl, r, k⟩ => by
    cases r with
    | r1 h1 h2 I => exact ⟨_, hv, h1, h2, k _ I⟩
    | r2 _ _ => cases hl
    | r3 _ _ => cases hl
theorem i_r2 (hg : Gl X "range") (hm : X.mg "range" = none) (ha : PAM X c W [e1, e2] [a, b]) (hs : starEach [e1, e2] X.env = [(false, eval e1 X.env), (false, eval e2 X.env)] := by rfl) (hs2 : starEach [e2] X.env = [(false, eval e2 X.env)] := by rfl) : PIM X c W tg (.Call (.Name "range" p) [e1, e2] [] pos) (srcR [a, b]) :=
  pi_conv (pi_range2 (ta := tMA X.K c X.mg W [a, b]) hg hm ha hs hs2) fun σ H P q => tma_mono (conv_rng σ H P q) fun vs H1 ⟨is, us, F1, hv, hl, r, k⟩ => by
    cases r with
    | r1 _ _ _ => cases hl
    | r2 h1 I => exact ⟨_, _, hv, h1, k _ I⟩
    | r3 _ _ => cases hl
theorem i_enum (hg : Gl X "enumerate") (hm : X.mg "enumerate" = none) (ha : PAM X c W [e1] [a]) (hs : starEach [e1] X.env = [(false, eval e1 X.env)] := by rfl) : PIM X c W (.Tuple elts kk tpos) (.Call (.Name "enumerate" p) [e1] [] pos) (src1 (enumU 0) [a]) :=
  pi_conv (pi_enum (ta := tMA X.K c X.mg W [a]) hg hm ha hs) fun σ H P q => conv_src1 (J := fun a xs => Ite X.K a) (fun h d => iok_enum h d) σ H P q
end
end MM
namespace MM
open PySem L2

def takeA : List Dn → Ev → Option (List O × Ev)
  | [], ρ => some ([], ρ)
  | .o x :: ds, ρ => match takeA ds ρ with
    | some (os, ρ') => some (x :: os, ρ')
    | none => none
  | .v i :: ds, ρ => match ρ[i]? with
    | some (some (.sh u)) => match takeA ds ρ with
      | some (os, ρ') => some (.sh u :: os, ρ')
      | none => none
    | some (some o) => match takeA ds (ρ.set i none) with
      | some (os, ρ') => some (o :: os, ρ')
      | none => none
    | _ => none
def putA : List Dn → Ev → Ev → Ev
  | .o _ :: ds, _ :: outs, ρ => putA ds outs ρ
  | .v i :: ds, x :: outs, ρ => match ρ[i]? with
    | some none => putA ds outs (ρ.set i x)
    | _ => putA ds outs ρ
  | _, _, ρ => ρ
def mCall (mf : List O → R O) (as : List Ag) : ME := fun ρ => match evAs as ρ with
  | .ok ds ρ1 => match takeA ds ρ1 with
    | some (os, ρ2) => match mf os with
      | .ok o outs => .ok o (putA ds outs ρ2)
      | .exc cl outs => .exc cl (putA ds outs ρ2)
      | .bad => .bad
    | none => .bad
  | .exc cl r => .exc cl r
  | .bad => .bad
def mCall0 (mf : List O → R O) : ME := fun ρ => match mf [] with
  | .ok o _ => .ok o ρ
  | _ => .bad
structure CEnd (F H : Hp) (S : Addr → Prop) (F' H' : Hp) (S' : Addr → Prop) : Prop where
  ff : Same F' H'
  f0 : Same F F'
  keep : ∀ a o, H a = some o → ¬ S a → H' a = some o
  fnew : ∀ a, F' a ≠ none → F a ≠ none ∨ H a = none ∨ S a
  own : ∀ a, S' a → F' a = none ∧ H' a ≠ none ∧ (H a = none ∨ S a)
def spM (K : PySem.W.Frag) (g : Str → Option Value) (n : Nat) (mf : List O → R O) : Sp := fun vs H Q E => ∃ os F S, vs.length = n ∧ Same F H ∧ RpOs K F H vs os S ∧ (∀ a, S a → F a = none ∧ H a ≠ none) ∧
  match mf os with
  | .ok o outs => ∀ v F' H' Sr So, CEnd F H S F' H' (fun a => Sr a ∨ So a) → (∀ a, Sr a → So a → False) → RpO K F' H' v o Sr → RpE K F' H' (vs.map some) outs So → Q v H'
  | .exc cl outs => ∀ C F' H' So, g cl = some (.ref C) → CEnd F H S F' H' So → RpE K F' H' (vs.map some) outs So → E (.ref C) none H'
  | .bad => False

section
variable {K : PySem.W.Frag} {c : Cc} {g : Str → Option Value} {W : WX} {ρ ρ' : Ev} {σ σ' : St} {F F' H H' : Hp} {E E' T T' S S1 S2 : Addr → Prop} {v : V} {o : O} {u : U} {D : Ends}
theorem take_ok : ∀ {ds : List Dn} {vs : List V} {os : List O} {ρ ρ' : Ev} {E T S : Addr → Prop}, MI K c ρ σ F H E (fun a => T a ∨ S a) → (∀ a, T a → S a → False) → DnRs K σ F H vs ds S → takeA ds ρ = some (os, ρ') →
    ∃ E' S', MI K c ρ' σ F H E' (fun a => T a ∨ S' a) ∧ (∀ a, T a → S' a → False) ∧ RpOs K F H vs os S'
  | [], _, _, _, _, _, _, _, M, dj, r, e => by
    cases r
    cases e
    exact ⟨_, Em, (M.less fun a x => .inl x).em, fun _ _ x => x, .nil⟩
  | .o x :: ds, _, _, _, _, E, T, S, M, dj, .cons (S1 := A) (S2 := B) r rs s1 s2 dd, e => by
    simp only [takeA] at e
    cases q : takeA ds _ with
    | none => rw [q] at e; cases e
    | some p =>
      obtain ⟨os, ρ'⟩ := p
      rw [q] at e
      cases e
      have M1 : MI K c _ σ F H E (fun a => (T a ∨ A a) ∨ B a) := M.less fun a x => by
        rcases x with (x | x) | x
        · exact .inl x
        · exact .inr (s1 a x)
        · exact .inr (s2 a x)
      obtain ⟨E', S', M2, d2, r2⟩ := take_ok M1 (fun a x y => x.elim (fun x => dj a x (s2 a y)) fun x => dd a x y) rs q
      exact ⟨E', fun a => A a ∨ S' a, M2.less fun a x => by
        rcases x with x | x | x
        · exact .inl (.inl x)
        · exact .inl (.inr x)
        · exact .inr x, fun a x y => y.elim (fun y => dj a x (s1 a y)) fun y => d2 a (.inl x) y, .cons r r2 (fun a x => .inl x) (fun a x => .inr x) fun a x y => d2 a (.inr x) y⟩
  | .v i :: ds, _, _, ρ, _, E, T, S, M, dj, .cons (S1 := A) (S2 := B) r rs s1 s2 dd, e => by
    simp only [takeA] at e
    have r : σ[i]? = some (some _) := r
    have shared : ∀ u os', ρ[i]? = some (some (.sh u)) → (match takeA ds ρ with | some (os, ρ') => some (.sh u :: os, ρ') | none => none) = some os' → ∃ E' S', MI K c os'.2 σ F H E' (fun a => T a ∨ S' a) ∧ (∀ a, T a → S' a → False) ∧ RpOs K F H _ os'.1 S' := fun u os' q1 e => by
      cases q : takeA ds ρ with
      | none => rw [q] at e; cases e
      | some p =>
        obtain ⟨os, ρ'⟩ := p
        rw [q] at e
        cases e
        have M1 : MI K c ρ σ F H E (fun a => T a ∨ B a) := M.less fun a x => x.imp id (s2 a)
        obtain ⟨E', S', M2, d2, r2⟩ := take_ok M1 (fun a x y => dj a x (s2 a y)) rs q
        obtain ⟨v, S0, h1, h2, _⟩ := M.env.get q1
        rw [r] at h1
        cases h1
        cases h2 with
        | sh dv => exact ⟨E', S', M2, d2, .cons (S1 := Em) (.sh dv) r2 (fun _ x => x.elim) (fun a x => x) fun _ x _ => x⟩
    have owned : ∀ o os', ρ[i]? = some (some o) → (match takeA ds (ρ.set i none) with | some (os, ρ') => some (o :: os, ρ') | none => none) = some os' → ∃ E' S', MI K c os'.2 σ F H E' (fun a => T a ∨ S' a) ∧ (∀ a, T a → S' a → False) ∧ RpOs K F H _ os'.1 S' := fun o os' q1 e => by
      cases q : takeA ds (ρ.set i none) with
      | none => rw [q] at e; cases e
      | some p =>
        obtain ⟨os, ρ'⟩ := p
        rw [q] at e
        cases e
        obtain ⟨v, S0, E0, h1, h2, M0, d0⟩ := M.take q1
        rw [r] at h1
        cases h1
        have M1 : MI K c (ρ.set i none) σ F H E0 (fun a => (T a ∨ S0 a) ∨ B a) := M0.less fun a x => by
          rcases x with (x | x) | x
          · exact .inl (.inl x)
          · exact .inr x
          · exact .inl (.inr (s2 a x))
        obtain ⟨E', S', M2, d2, r2⟩ := take_ok M1 (fun a x y => x.elim (fun x => dj a x (s2 a y)) fun x => d0 a (.inr (s2 a y)) x) rs q
        exact ⟨E', fun a => S0 a ∨ S' a, M2.less fun a x => by
          rcases x with x | x | x
          · exact .inl (.inl x)
          · exact .inl (.inr x)
          · exact .inr x, fun a x y => y.elim (fun y => d0 a (.inl x) y) fun y => d2 a (.inl x) y, .cons h2 r2 (fun a x => .inl x) (fun a x => .inr x) fun a x y => d2 a (.inr x) y⟩
    cases q : ρ[i]? with
    | none => rw [q] at e; cases e
    | some x =>
      cases x with
      | none => rw [q] at e; cases e
      | some o =>
        rw [q] at e
        cases o with
        | sh u => exact shared u (_, _) q e
        | ol os => exact owned _ (_, _) q e
        | ot os => exact owned _ (_, _) q e
        | od os => exact owned _ (_, _) q e
        | nd os => exact owned _ (_, _) q e
        | nf os => exact owned _ (_, _) q e
        | ins _ _ => exact owned _ (_, _) q e
        | fi _ _ => exact owned _ (_, _) q e
        | dl _ _ => exact owned _ (_, _) q e
        | df _ => exact owned _ (_, _) q e
        | sc os => exact owned _ (_, _) q e
theorem MI.call (M : MI K c ρ σ F H E (fun a => T a ∨ S a)) (dj : ∀ a, T a → S a → False) {S' : Addr → Prop} (C : CEnd F H S F' H' S') : MI K c ρ σ F' H' E (fun a => T a ∨ S' a) ∧ (∀ a, T a → H' a = H a) ∧ ∀ a, T a → S' a → False := by
  have h0 : ∀ a, H a = none → c.H0 a = none ∨ c.S0 a := fun a x => by
    cases q : c.H0 a with
    | none => exact .inl rfl
    | some y =>
      by_cases hs : c.S0 a
      · exact .inr hs
      · rw [M.keep a y q hs] at x; cases x
  have kp : ∀ a, (E a ∨ T a) → H' a = H a := fun a x => by
    have q := M.own a (x.imp id .inl)
    have ns : ¬ S a := fun z => by
      rcases x with x | x
      · exact M.dj a x (.inr z)
      · exact dj a x z
    cases e : H a with
    | none => exact absurd e q.2.1
    | some y => exact C.keep a y e ns
  have fn : ∀ a, (E a ∨ T a) → F' a = none := fun a x => by
    have q := M.own a (x.imp id .inl)
    cases e : F' a with
    | none => rfl
    | some y =>
      rcases C.fnew a (by rw [e]; simp) with z | z | z
      · exact absurd q.1 z
      · exact absurd z q.2.1
      · rcases x with x | x
        · exact (M.dj a x (.inr z)).elim
        · exact (dj a x z).elim
  refine ⟨⟨C.ff, M.f0.trans C.f0, fun a y h hs => C.keep a y (M.keep a y h hs) fun z => ?_, fun a h => ?_, M.env.frame C.f0 fun a x => kp a (.inl x), fun a x => ?_, fun a x y => ?_, M.pins⟩, fun a x => kp a (.inr x), fun a x y => ?_⟩
  · rcases (M.own a (.inr (.inr z))).2.2 with w | w
    · rw [w] at h; cases h
    · exact hs w
  · rcases C.fnew a h with z | z | z
    · exact M.fnew a z
    · exact .inr (h0 a z)
    · exact .inr (M.own a (.inr (.inr z))).2.2
  · rcases x with x | x | x
    · exact ⟨fn a (.inl x), by rw [kp a (.inl x)]; exact (M.own a (.inl x)).2.1, (M.own a (.inl x)).2.2⟩
    · exact ⟨fn a (.inr x), by rw [kp a (.inr x)]; exact (M.own a (.inr (.inl x))).2.1, (M.own a (.inr (.inl x))).2.2⟩
    · have q := C.own a x
      exact ⟨q.1, q.2.1, q.2.2.elim (h0 a) fun z => (M.own a (.inr (.inr z))).2.2⟩
  · rcases y with y | y
    · exact M.dj a x (.inl y)
    · rcases (C.own a y).2.2 with z | z
      · exact (M.own a (.inl x)).2.1 z
      · exact M.dj a x (.inr z)
  · rcases (C.own a y).2.2 with z | z
    · exact (M.own a (.inr (.inl x))).2.1 z
    · exact dj a x z
theorem put_ok : ∀ {ds : List Dn} {vs : List V} {outs : Ev} {ρ : Ev} {E T So S : Addr → Prop} {F0 H0 : Hp}, MI K c ρ σ F H E (fun a => T a ∨ So a) → (∀ a, T a → So a → False) → DnRs K σ F0 H0 vs ds S → RpE K F H (vs.map some) outs So → ∃ E', MI K c (putA ds outs ρ) σ F H E' T
  | [], _, outs, _, E, _, _, _, _, _, M, dj, r, ro => by
    cases outs <;> exact ⟨E, M.less fun a x => .inl x⟩
  | .o x :: ds, _, outs, ρ, E, T, So, _, _, _, M, dj, .cons r rs s1 s2 dd, ro => by
    cases ro with
    | non ro => exact put_ok (ds := ds) M dj rs ro
    | cons q ro t1 t2 d2 => exact put_ok (ds := ds) (M.less fun a x => x.imp id (t2 a)) (fun a x y => dj a x (t2 a y)) rs ro
  | .v i :: ds, _, outs, ρ, E, T, So, _, _, _, M, dj, .cons r rs s1 s2 dd, ro => by
    have r : σ[i]? = some (some _) := r
    cases ro with
    | non ro =>
      simp only [putA]
      split
      · exact put_ok (ds := ds) ⟨M.ff, M.f0, M.keep, M.fnew, M.env.drop' i, M.own, M.dj, M.pins⟩ dj rs ro
      · exact put_ok (ds := ds) M dj rs ro
    | cons q ro t1 t2 d2 =>
      rename_i outs' B1 B2
      simp only [putA]
      split
      · have M1 : MI K c ρ σ F H E (fun a => (T a ∨ B2 a) ∨ B1 a) := M.less fun a x => by
          rcases x with (x | x) | x
          · exact .inl x
          · exact .inr (t2 a x)
          · exact .inr (t1 a x)
        exact put_ok (ds := ds) (M1.back (fun a x y => x.elim (fun x => dj a x (t1 a y)) fun x => d2 a y x) q r) (fun a x y => dj a x (t2 a y)) rs ro
      · exact put_ok (ds := ds) (M.less fun a x => x.imp id (t2 a)) (fun a x y => dj a x (t2 a y)) rs ro
theorem conv_call {mf : List O → R O} {as : List Ag} {n : Nat} (hn : as.length = n) (σ : St) (H : Hp) (Q : VK) (h : tM K c g W (mCall mf as) σ H Q) : tCallS (spM K g n mf) (WE W) (tMA K c g W as) σ H Q := by
  obtain ⟨ρ, F, E, T, M, h⟩ := h
  unfold mCall at h
  refine ⟨ρ, F, E, T, M, ?_⟩
  cases e1 : evAs as ρ with
  | exc cl ρ1 => rw [e1] at h; exact h
  | bad => rw [e1] at h; exact h
  | ok ds ρ1 =>
    rw [e1] at h
    simp only at h
    intro vs F1 H1 E1 S1 f1 k1 M1 d1 r1
    cases e2 : takeA ds ρ1 with
    | none => rw [e2] at h; exact h.elim
    | some p =>
      obtain ⟨os, ρ2⟩ := p
      rw [e2] at h
      simp only at h
      obtain ⟨E2, S2, M2, d2, r2⟩ := take_ok M1 d1 r1 e2
      refine ⟨os, F1, S2, by rw [r1.len, evAs_len e1, hn], M2.ff, r2, fun a x => ⟨(M2.own a (.inr (.inr x))).1, (M2.own a (.inr (.inr x))).2.1⟩, ?_⟩
      cases e3 : mf os with
      | bad => rw [e3] at h; exact h
      | ok o outs =>
        rw [e3] at h
        simp only at h
        intro v F' H' Sr So C dro rr ro
        obtain ⟨M3, k3, d3⟩ := M2.call d2 C
        have M4 : MI K c ρ2 σ F' H' E2 (fun a => (T a ∨ Sr a) ∨ So a) := M3.less fun a x => by
          rcases x with (x | x) | x
          · exact .inl x
          · exact .inr (.inl x)
          · exact .inr (.inr x)
        obtain ⟨E5, M5⟩ := put_ok (ds := ds) M4 (fun a x y => x.elim (fun x => d3 a x (.inr y)) fun x => dro a x y) r1 ro
        exact h v F' H' E5 Sr (f1.trans C.f0) (fun a x => (k3 a x).trans (k1 a x)) M5 (fun a x y => d3 a x (.inl y)) rr
      | exc cl outs =>
        rw [e3] at h
        simp only at h
        intro C F' H' So gC CC ro
        obtain ⟨M3, k3, d3⟩ := M2.call d2 CC
        obtain ⟨E5, M5⟩ := put_ok (ds := ds) M3 d3 r1 ro
        exact h C F' H' E5 gC (f1.trans CC.f0) (M5.less fun _ x => x.elim)
def outsOf : List Bool → Ev → Ev
  | [], _ => []
  | true :: ks, x :: ρ => x :: outsOf ks ρ
  | false :: ks, _ :: ρ => none :: outsOf ks ρ
  | _ :: ks, [] => none :: outsOf ks []
def runF (n : Nat) (ks : List Bool) (body : MS) (os : List O) : R O := match body (os.map some ++ List.replicate n none) with
  | .rt o ρ => .ok o (outsOf ks ρ)
  | .nx ρ => .ok (.sh .none) (outsOf ks ρ)
  | .exc cl ρ => .exc cl (outsOf ks ρ)
  | _ => .bad
def pinOf : List Bool → List V → Nat → Option V
  | true :: _, v :: _, 0 => some v
  | _ :: ks, _ :: vs, i + 1 => pinOf ks vs i
  | _, _, _ => none
theorem pin_get : ∀ {ks : List Bool} {vs : List V} {i : Nat} {v : V}, pinOf ks vs i = some v → vs[i]? = some v
  | true :: ks, w :: vs, 0, v, h => by simp only [pinOf] at h; rw [← h]; rfl
  | false :: ks, w :: vs, 0, v, h => by simp [pinOf] at h
  | k :: ks, w :: vs, i + 1, v, h => by
    have h : pinOf ks vs i = some v := by cases k <;> simpa [pinOf] using h
    simpa using pin_get h
  | [], _, _, _, h => by simp [pinOf] at h
  | true :: ks, [], i, v, h => by simp [pinOf] at h
  | false :: ks, [], i, v, h => by simp [pinOf] at h
theorem pin_no : ∀ {ks : List Bool} {vs : List V} {i : Nat}, ks.getD i false = false → pinOf ks vs i = none
  | [], vs, i, _ => by simp [pinOf]
  | true :: ks, vs, 0, h => by simp at h
  | false :: ks, vs, 0, h => by cases vs <;> simp [pinOf]
  | k :: ks, [], i + 1, h => by cases k <;> simp [pinOf]
  | k :: ks, v :: vs, i + 1, h => by
    have : pinOf ks vs i = none := pin_no (by simpa using h)
    cases k <;> simpa [pinOf] using this
theorem pin_yes : ∀ {ks : List Bool} {vs : List V} {i : Nat}, ks.length = vs.length → ks.getD i false = true → ∃ v, pinOf ks vs i = some v
  | [], vs, i, _, h => by simp at h
  | true :: ks, [], i, hl, _ => by simp at hl
  | false :: ks, [], i, hl, _ => by simp at hl
  | true :: ks, v :: vs, 0, _, _ => ⟨v, rfl⟩
  | false :: ks, v :: vs, 0, _, h => by simp at h
  | k :: ks, v :: vs, i + 1, hl, h => by
    obtain ⟨w, e⟩ := pin_yes (ks := ks) (vs := vs) (i := i) (by simpa using hl) (by simpa using h)
    exact ⟨w, by cases k <;> simpa [pinOf] using e⟩
theorem outs_ok : ∀ {ks : List Bool} {vs : List V} {σ : St} {ρ : Ev} {E : Addr → Prop}, ks.length = vs.length → RpE K F H σ ρ E → (∀ i v, pinOf ks vs i = some v → σ[i]? = some (some v)) → RpE K F H (vs.map some) (outsOf ks ρ) E
  | [], [], _, _, _, _, _, _ => .nil
  | [], _ :: _, _, _, _, h, _, _ => by simp at h
  | _ :: _, [], _, _, _, h, _, _ => by simp at h
  | k :: ks, v :: vs, σ, ρ, E, hl, r, hp => by
    have hl : ks.length = vs.length := by simpa using hl
    cases r with
    | nil =>
      have : outsOf (k :: ks) [] = none :: outsOf ks [] := by cases k <;> rfl
      rw [this]
      exact .non (outs_ok hl .nil fun i w h => by
        have q := hp (i + 1) w (by cases k <;> simpa [pinOf] using h)
        simp at q)
    | non r =>
      rename_i x σ ρ
      have tl : RpE K F H (vs.map some) (outsOf ks ρ) E := outs_ok hl r fun i w h => by
        have q := hp (i + 1) w (by cases k <;> simpa [pinOf] using h)
        simpa using q
      cases k <;> exact .non tl
    | cons q r s1 s2 d =>
      rename_i w σ o ρ A B
      have tl : RpE K F H (vs.map some) (outsOf ks ρ) B := outs_ok hl r fun i w h => by
        have q := hp (i + 1) w (by cases k <;> simpa [pinOf] using h)
        simpa using q
      cases k with
      | false => exact .non (tl.mono s2)
      | true =>
        have e := hp 0 v rfl
        simp at e
        subst e
        exact .cons q tl s1 s2 d
theorem env_start : ∀ {vs : List V} {os : List O} {S : Addr → Prop} (n : Nat), RpOs K F H vs os S → RpE K F H (vs.map some ++ List.replicate n none) (os.map some ++ List.replicate n none) S
  | [], _, _, 0, .nil => .nil
  | [], _, _, n + 1, .nil => .non (env_start n (.nil (K := K) (F := F) (H := H)))
  | _ :: _, _, _, n, .cons r rs s1 s2 d => .cons r (env_start n rs) s1 s2 d
theorem body_ok {m : MS} {ks : List Bool} {n : Nat} {vs : List V} {Q : VK} {E : XK} {N : List Str} (hk : ks.length = n) (hN : n ≤ N.length) (h : spM K g n (runF (N.length - n) ks m) vs H Q E) :
    ∃ c : Cc, (∀ i, ks.getD i false = false → c.pin i = none) ∧ (∀ i, ks.getD i false = true → ∃ v, c.pin i = some v) ∧ tS K c g (fun cls d _ H => E cls d H) m { nx := fun _ H' => Q .non H', rt := Q } (start N vs) H := by
  obtain ⟨os, F, S, hl, ff, r, own, h⟩ := h
  subst hl
  refine ⟨⟨H, F, S, pinOf ks vs⟩, fun i hi => pin_no hi, fun i hi => pin_yes (by omega) hi, os.map some ++ List.replicate (N.length - vs.length) none, F, S, ⟨ff, Same.refl F, fun a o q _ => q, fun a q => .inl q, env_start _ r, fun a x => ?_, fun _ _ x => x, fun i v q => ?_⟩, ?_⟩
  · have x : S a := x.elim id False.elim
    exact ⟨(own a x).1, (own a x).2, .inr x⟩
  · have q := pin_get q
    show (vs.map some ++ _)[i]? = some (some v)
    have hi : i < vs.length := by
      rcases Nat.lt_or_ge i vs.length with z | z
      · exact z
      · rw [List.getElem?_eq_none z] at q; cases q
    rw [List.getElem?_append_left (by simpa using hi), List.getElem?_map, q]
    rfl
  · unfold runF at h
    generalize m (os.map some ++ List.replicate (N.length - vs.length) none) = z at h ⊢
    have out : ∀ {ρ : Ev} {σ : St} {F' H' : Hp} {E' T' : Addr → Prop}, MI K ⟨H, F, S, pinOf ks vs⟩ ρ σ F' H' E' T' → RpE K F' H' (vs.map some) (outsOf ks ρ) E' := fun M => outs_ok hk M.env M.pins
    have cend : ∀ {ρ : Ev} {σ : St} {F' H' : Hp} {E' T' : Addr → Prop}, MI K ⟨H, F, S, pinOf ks vs⟩ ρ σ F' H' E' T' → CEnd F H S F' H' (fun a => T' a ∨ E' a) := fun M => ⟨M.ff, M.f0, M.keep, M.fnew, fun a x => M.own a (x.elim .inr .inl)⟩
    cases z with
    | bk ρ => exact h.elim
    | ct ρ => exact h.elim
    | bad => exact h.elim
    | nx ρ =>
      intro σ F' H' E' _ M
      exact h .non F' H' Em E' (cend M) (fun _ x _ => x) (.sh .non) (out M)
    | rt o ρ =>
      intro v σ F' H' E' S' _ M rr
      exact h v F' H' S' E' (cend M) (fun a x y => M.dj a y x) rr (out M)
    | exc cl ρ =>
      intro C σ F' H' E' gC _ M
      have ce := cend M
      exact h C F' H' E' gC ⟨ce.ff, ce.f0, ce.keep, ce.fnew, fun a x => ce.own a (.inr x)⟩ (out M)
end

theorem _root_.L2.Fun.look {K : PySem.W.Frag} {x : Str} {st : Stmt} {f : Addr} {fd : FuncData} (F : L2.Fun K x x st f fd) : ∃ ob, K.lookup f = some ob ∧ ob.data = .func fd := by
  obtain ⟨oc, od, kV, doc, pm, an, cdv, ct, osl, _, lk, _⟩ := F.ex
  exact ⟨_, lk, rfl⟩
structure Cal (P : Program) (w : World) (K : PySem.W.Frag) (mg : Str → Option Value) (base : Heap) (x : Str) (ps : List Str) (k : Nat) (mf : List O → R O) : Prop where
  ex : ∃ (f : Addr) (fd : FuncData), mg x = some (.ref f) ∧ PySem.W.keepIn K (.ref f) = true ∧ Binds K fd ps [] ∧ FnOk P w K mg base (L2.CX P w) k f fd ps (spM K mg ps.length mf) ∧ ∃ ob, K.lookup f = some ob ∧ ob.data = .func fd
structure Sta (K : PySem.W.Frag) (mg : Str → Option Value) (x : Str) (ps : List Str) (st : Stmt) : Prop where
  ex : ∃ (f : Addr) (fd : FuncData), mg x = some (.ref f) ∧ Binds K fd ps [] ∧ Fun K x x st f fd
section
variable {P : Program} {w : World} {K : PySem.W.Frag} {mg : Str → Option Value} {base : Heap} {x : Str} {N ps : List Str} {k j : Nat} {st : Stmt}
theorem Cal.mono {mf : List O → R O} (C : Cal P w K mg base x ps j mf) (h : j ≤ k) : Cal P w K mg base x ps k mf :=
  let ⟨f, fd, h1, h2, h3, h4, h5⟩ := C.ex
  ⟨f, fd, h1, h2, h3, h4.mono h, h5⟩
theorem cal_of {m : MS} {ks : List Bool} (s : Sta K mg x ps st) (S : FnScope N ps (defScope st)) (hk : ks.length = ps.length) (hN : ps.length ≤ N.length)
    (hb : ∀ (X : Cx) (c : Cc) (W : WX) (cdv : Value) (A : Around) (outer : List Env) (s : Shared) (H : Hp) (E : XK) (f : Addr), X = cxOf (L2.CX P w) P w K mg base N x (defScope st) f cdv A outer s H E → W = (fun cls d _ H => E cls d H) → Room k X.A → Takes X W → PassesOwn (model X.prog X.w) X.A X.env X.xe →
      (∀ i, ks.getD i false = false → c.pin i = none) → (∀ i, ks.getD i false = true → ∃ v, c.pin i = some v) → PSsM X c W (defBody st) m) : Cal P w K mg base x ps (k + 1) (runF (N.length - ps.length) ks m) := by
  obtain ⟨f, fd, h1, h2, h3⟩ := s.ex
  refine ⟨f, fd, h1, h3.kp, h2, h3.okX S (fun vs H Q E ⟨_, _, _, hl, _⟩ => hl) (fun cdv A outer s H vs Q E hr h => ?_), h3.look⟩
  obtain ⟨c, hp, hp2, q⟩ := body_ok hk hN h
  exact ⟨_, hb _ c _ cdv A outer s H E f rfl rfl hr (takes_of rfl rfl rfl rfl) (passes_of rfl) hp hp2, q⟩
end
section
variable {X : Cx} {c : Cc} {W : WX} {e : Expr} {es : List Expr} {a : Ag} {as : List Ag} {pos p : Pos} {x : Str} {ps : List Str} {k : Nat} {mf : List O → R O}
theorem x_call (C : Cal X.prog X.w X.K X.mg X.base x ps k mf) (tk : Takes X W) (hr : Room k X.A) (hg : Gl X x) (hl : as.length = ps.length) (ha : PAM X c W (e :: es) as) (hdb : (x == ("__debug__" : Str)) = false := by decide) (he : starEach (e :: es) X.env = (false, eval e X.env) :: starEach es X.env := by rfl) (hpl : (backTo pos (starEach es X.env)).any (·.1) = false := by rfl) :
    PM X c W (.Call (.Name x p) (e :: es) [] pos) (mCall mf as) := by
  obtain ⟨f, fd, h1, h2, h3, h4, _⟩ := C.ex
  exact pe_conv (pe_callS h4 hr hg h1 h2 h3 (fun σ => passAt tk σ) ha hdb he hpl) fun σ H Q q => conv_call hl σ H Q q
end
end MM
namespace MM
open PySem L2

abbrev WF : WX := fun _ _ _ _ => False
def wipeE (ρ : Ev) : List Nat → Ev
  | [] => ρ
  | v :: vs => (wipeE ρ vs).set v none
def resE (ρ1 : Ev) : List Nat → Ev → Ev
  | [], ρ => ρ
  | i :: is, ρ => match ρ1[i]? with
    | some (some (.sh u)) => (resE ρ1 is ρ).set i (some (.sh u))
    | _ => resE ρ1 is ρ
def lpC (t : Tg) (own : List Nat) (test : Ev → R Bool) (elt : ME) : List U → List O → Ev → R O
  | [], acc, ρ => .ok (.ol acc.reverse) ρ
  | u :: us, acc, ρ => match bind t u ρ with
    | none => .bad
    | some ρ1 => match test ρ1 with
      | .ok true ρ2 => match elt ρ2 with
        | .ok o ρ3 => lpC t own test elt us (o :: acc) (wipeE ρ3 own)
        | _ => .bad
      | .ok false ρ2 => lpC t own test elt us acc (wipeE ρ2 own)
      | _ => .bad
def mLc (t : Tg) (own : List Nat) (src : Ev → R (List U)) (test : Ev → R Bool) (elt : ME) : ME := fun ρ => match src ρ with
  | .ok us ρ1 => if us.length ≤ 16777216 then (match lpC t own test elt us [] (wipeE ρ1 own) with
    | .ok o ρ2 => .ok o (resE ρ1 own ρ2)
    | _ => .bad) else .bad
  | .exc cl r => .exc cl r
  | .bad => .bad
def bYes : Ev → R Bool := fun ρ => .ok true ρ

section
variable {K : PySem.W.Frag} {c : Cc} {g : Str → Option Value} {W : WX} {ρ ρ' : Ev} {σ σ' : St} {F F' H H' : Hp} {E E' T T' S S1 S2 : Addr → Prop} {v : V} {o : O} {u : U} {Q : VK}
theorem RpE.chg : ∀ {σ σ' : St} {ρ : Ev} {E : Addr → Prop}, RpE K F H σ ρ E → σ'.length = σ.length → (∀ (i : Nat) (o : O), ρ[i]? = some (some o) → σ'[i]? = σ[i]?) → RpE K F H σ' ρ E
  | [], σ', _, _, .nil, hl, _ => by
    have : σ' = [] := List.length_eq_zero_iff.mp hl
    subst this
    exact .nil
  | x :: σ, σ', _, _, .non r, hl, k => by
    cases σ' with
    | nil => simp at hl
    | cons y σ' => exact .non (RpE.chg r (by simpa using hl) fun i o h => by simpa using k (i + 1) o (by simpa using h))
  | some x :: σ, σ', _, _, .cons q r s1 s2 d, hl, k => by
    cases σ' with
    | nil => simp at hl
    | cons y σ' =>
      have e := k 0 _ rfl
      simp at e
      subst e
      exact .cons q (RpE.chg r (by simpa using hl) fun i o h => by simpa using k (i + 1) o (by simpa using h)) s1 s2 d
theorem MI.wipe (M : MI K c ρ σ F H E T) : ∀ {own : List Nat}, (∀ i, i ∈ own → c.pin i = none) → MI K c (wipeE ρ own) (wipe σ own) F H E T
  | [], _ => M
  | i :: own, h => MI.forget (MI.wipe M fun j hj => h j (List.mem_cons_of_mem _ hj)) i none (h i List.mem_cons_self)
theorem wipeE_none {own : List Nat} {i : Nat} {o : O} : (wipeE ρ own)[i]? = some (some o) → i ∉ own ∧ ρ[i]? = some (some o) := by
  induction own with
  | nil => exact fun h => ⟨by simp, h⟩
  | cons j own ih =>
    intro h
    simp only [wipeE] at h
    by_cases hj : j = i
    · subst hj
      by_cases hl : j < (wipeE ρ own).length
      · rw [List.getElem?_set_self hl] at h; cases h
      · rw [List.getElem?_eq_none (by simpa using hl)] at h; cases h
    · rw [List.getElem?_set_ne hj] at h
      obtain ⟨h1, h2⟩ := ih h
      exact ⟨by simp only [List.mem_cons, not_or]; exact ⟨fun e => hj e.symm, h1⟩, h2⟩
theorem wipe_get {own : List Nat} {i : Nat} (h : i ∉ own) : (L2.wipe σ own)[i]? = σ[i]? := by
  induction own with
  | nil => rfl
  | cons j own ih =>
    simp only [List.mem_cons, not_or] at h
    simp only [L2.wipe]
    rw [List.getElem?_set_ne fun e => h.1 e.symm]
    exact ih h.2
theorem MI.unwipe {own : List Nat} (M : MI K c (wipeE ρ own) (L2.wipe σ own) F H E T) (hp : ∀ i, i ∈ own → c.pin i = none) : MI K c (wipeE ρ own) σ F H E T :=
  ⟨M.ff, M.f0, M.keep, M.fnew, M.env.chg (wipe_length σ own).symm fun i o h => (wipe_get (wipeE_none h).1).symm, M.own, M.dj, fun i v h => by
    have ni : i ∉ own := fun z => by rw [hp i z] at h; cases h
    rw [← wipe_get ni]; exact M.pins i v h⟩
theorem MI.res {F1 H1 : Hp} {E1 T1 : Addr → Prop} {ρ1 : Ev} (M1 : MI K c ρ1 σ F1 H1 E1 T1) (f : Same F1 F) : ∀ {own : List Nat} {E : Addr → Prop}, MI K c ρ σ F H E T → ∃ E', MI K c (resE ρ1 own ρ) σ F H E' T
  | [], E, M => ⟨E, M⟩
  | i :: own, E, M => by
    obtain ⟨E', M'⟩ := MI.res M1 f (own := own) M
    simp only [resE]
    split
    · rename_i u e
      obtain ⟨v, S', h1, h2, _⟩ := M1.env.get e
      cases h2 with
      | sh d => exact ⟨_, M'.em.back (fun _ _ x => x) (.sh (Dq.mono f _ _ d)) h1⟩
    · exact ⟨E', M'⟩
theorem wipe_idem {own : List Nat} (h : ∀ j, j ∉ own → σ'[j]? = σ[j]?) (hl : σ'.length = σ.length) : L2.wipe σ' own = L2.wipe σ own := by
  have none_at : ∀ {σ : St} {i : Nat}, i ∈ own → i < σ.length → (L2.wipe σ own)[i]? = some none := fun {σ i} hi hlt => by
    have hw : i < (L2.wipe σ own).length := by rw [wipe_length]; exact hlt
    cases e : (L2.wipe σ own)[i]? with
    | none => rw [List.getElem?_eq_none_iff] at e; omega
    | some x =>
      cases x with
      | none => rfl
      | some v => exact absurd hi (wipe_some e).2
  apply List.ext_getElem?
  intro i
  by_cases hi : i ∈ own
  · by_cases hlt : i < σ.length
    · rw [none_at hi hlt, none_at hi (by omega)]
    · rw [List.getElem?_eq_none (by rw [wipe_length]; omega), List.getElem?_eq_none (by rw [wipe_length]; omega)]
  · rw [wipe_get hi, wipe_get hi]
    exact h i hi
theorem wipe_wipe {own : List Nat} : L2.wipe (L2.wipe σ own) own = L2.wipe σ own := wipe_idem (fun j hj => wipe_get hj) (wipe_length σ own)
theorem conv_lc {t : Tg} {own : List Nat} {src : Ev → R (List U)} {test : Ev → R Bool} {elt : ME} (hp : ∀ i, i ∈ own → c.pin i = none) (hs : ∀ i, i ∈ t.slots → i ∈ own) (ht : t.free c) (σ : St) (H : Hp) (Q : VK) (h : tM K c g W (mLc t own src test elt) σ H Q) :
    tLc (tI K c g W src) (gTg K t) (tMT K c g WF test) (tM K c g WF elt) own σ H Q := by
  obtain ⟨ρ, F, E, T, M, h⟩ := h
  unfold mLc at h
  refine ⟨ρ, F, E, T, M, ?_⟩
  cases e : src ρ with
  | exc cl ρ1 => rw [e] at h; exact h
  | bad => rw [e] at h; exact h
  | ok us ρ1 =>
    rw [e] at h
    simp only at h
    split at h
    case isFalse => exact h.elim
    rename_i hlen
    intro J F1 H1 E1 f1 k1 M1 I1 D hD
    have hTD : ∀ a, T a → a ≠ D := fun a x z => by subst z; exact (M1.own _ (.inr x)).2.1 hD
    refine ⟨fun i m H2 => ∃ ρ2 F2 E2 us' acc va Sa, MI K c (wipeE ρ2 own) (L2.wipe σ own) F2 H2 E2 (fun a => T a ∨ (a = D ∨ Sa a)) ∧ (∀ a, T a → (a = D ∨ Sa a) → False) ∧ H2 D = some (.lst va) ∧ RpOs K F2 H2 va acc.reverse Sa ∧ ¬ Sa D ∧ Same F1 F2 ∧ us' = us.drop i ∧ m = us'.length ∧ acc.length ≤ i ∧ (∀ a, T a → H2 a = H1 a) ∧
        Got K c g W (relO K) σ F H T Q (match lpC t own test elt us' acc (wipeE ρ2 own) with | .ok o ρ2 => .ok o (resE ρ1 own ρ2) | _ => .bad),
      ⟨us.length, ρ1, F1, E1, us, [], [], Em, ((M1.new hD).wipe hp).less fun a x => x.imp id fun x => x.elim id False.elim, fun a x y => y.elim (hTD a x) id, upd_same, .nil, fun x => x, Same.refl _, rfl, rfl, Nat.le_refl _, fun a x => upd_ne (hTD a x), h⟩, ?_⟩
    rintro i m H2 ⟨ρ2, F2, E2, us', acc, va, Sa, M2, d2, hD2, ra, nD, f2, hd, rfl, hac, fr, h⟩
    obtain ⟨stop, go⟩ := I1 i H2 F2 _ _ E2 _ f2 M2
    match us', hd, h with
    | [], hd, h =>
      have hl : us.length ≤ i := by
        have : (us.drop i).length = 0 := by rw [← hd]; rfl
        rw [List.length_drop] at this
        omega
      refine .inl ⟨stop hl, ?_⟩
      simp only [lpC] at h
      obtain ⟨E3, M3⟩ := MI.res M1 f2 (own := own) (M2.unwipe hp)
      exact h (.ref D) F2 H2 E3 (fun a => a = D ∨ Sa a) (f1.trans f2) (fun a x => (fr a x).trans (k1 a x)) M3 d2 (.ol hD2 (.inl rfl) ra (fun a x => .inr x) nD)
    | u :: us', hd, h =>
      have hu : us[i]? = some u := by
        have : (us.drop i)[0]? = some u := by rw [← hd]; rfl
        rw [List.getElem?_drop] at this
        simpa using this
      have hi : i < us.length := by
        rcases Nat.lt_or_ge i us.length with z | z
        · exact z
        · rw [List.getElem?_eq_none z] at hu; cases hu
      have hd' : us' = us.drop (i + 1) := by
        rw [← List.drop_drop, ← hd]
        rfl
      obtain ⟨g1, g2⟩ := go u hu
      simp only [lpC] at h
      refine .inr ⟨g1, fun H3 => ∃ ρ2 F2 E2 acc va Sa, MI K c (wipeE ρ2 own) (L2.wipe σ own) F2 H3 E2 (fun a => T a ∨ (a = D ∨ Sa a)) ∧ (∀ a, T a → (a = D ∨ Sa a) → False) ∧ H3 D = some (.lst va) ∧ RpOs K F2 H3 va acc.reverse Sa ∧ ¬ Sa D ∧ Same F1 F2 ∧ acc.length ≤ i + 1 ∧ (∀ a, T a → H3 a = H1 a) ∧
          Got K c g W (relO K) σ F H T Q (match lpC t own test elt us' acc (wipeE ρ2 own) with | .ok o ρ2 => .ok o (resE ρ1 own ρ2) | _ => .bad),
        fun H3 ⟨ρ2, F2, E2, acc, va, Sa, a1, a2, a3, a4, a5, a6, a7, a8, a9⟩ => ⟨us'.length, Nat.lt_succ_self _, ρ2, F2, E2, us', acc, va, Sa, a1, a2, a3, a4, a5, a6, hd', rfl, a7, a8, a9⟩, fun x H3 y => ?_⟩
      obtain ⟨F3, f3, k3, M3, d3⟩ := g2 x H3 y
      cases e2 : bind t u (wipeE ρ2 own) with
      | none => rw [e2] at h; exact h.elim
      | some ρ3 =>
        rw [e2] at h
        simp only at h
        refine bind_ok ht M3 d3 e2 fun σ4 E4 ag M4 => ?_
        have hw : L2.wipe σ4 own = L2.wipe σ own := by
          rw [← wipe_wipe (σ := σ)]
          refine wipe_idem (fun j hj => ag j fun z => hj (hs j z)) ?_
          rw [M4.env.len, M4.env.len.symm]
          have l1 := M3.env.len
          have l2 := M4.env.len
          rw [wipe_length]
          have l3 : ρ3.length = (wipeE ρ2 own).length := by
            have go : ∀ {is : List Nat} {os : List O} {ρ ρ' : Ev}, setAll is os ρ = some ρ' → ρ'.length = ρ.length := by
              intro is
              induction is with
              | nil => intro os ρ ρ' q; cases os <;> simp [setAll] at q; subst q; rfl
              | cons j js ih =>
                intro os ρ ρ' q
                cases os with
                | nil => simp [setAll] at q
                | cons o os => simp only [setAll] at q; rw [ih q]; simp
            cases t with
            | nm j => simp only [bind, Option.some.injEq] at e2; subst e2; simp
            | tp is =>
              simp only [bind] at e2
              split at e2
              · exact go e2
              · cases e2
            | tq is j =>
              simp only [bind] at e2
              split at e2
              · split at e2
                · split at e2
                  · rename_i q
                    cases e2
                    rw [List.length_set]
                    exact go q
                  · cases e2
                · cases e2
              · cases e2
          rw [wipe_length] at l1
          omega
        refine ⟨hw, ρ3, F3, E4, _, M4, ?_⟩
        cases e3 : test ρ3 with
        | exc cl ρ4 => rw [e3] at h; exact h.elim
        | bad => rw [e3] at h; exact h.elim
        | ok b ρ4 =>
          rw [e3] at h
          intro b' F5 H5 E5 S5 f5 k5 M5 dj5 rb
          cases rb
          have ra5 : RpOs K F5 H5 va acc.reverse Sa := (ra.frame f3 fun a x => k3 a (.inr (.inr x))).frame f5 fun a x => k5 a (.inr (.inr x))
          have hD5 : H5 D = some (.lst va) := by rw [k5 D (.inr (.inl rfl)), k3 D (.inr (.inl rfl))]; exact hD2
          have fr5 : ∀ a, T a → H5 a = H1 a := fun a x => (k5 a (.inl x)).trans ((k3 a (.inl x)).trans (fr a x))
          cases b with
          | false =>
            rw [if_neg Bool.false_ne_true]
            simp only at h
            have M6 := (M5.less (T' := fun a => T a ∨ (a = D ∨ Sa a)) fun a x => .inl x).wipe hp
            rw [hw] at M6
            exact ⟨ρ4, F5, E5, acc, va, Sa, M6, d2, hD5, ra5, nD, f2.trans (f3.trans f5), Nat.le_succ_of_le hac, fr5, h⟩
          | true =>
            rw [if_pos rfl]
            simp only at h
            refine ⟨ρ4, F5, E5, fun a => T a ∨ (a = D ∨ Sa a), M5.less fun a x => .inl x, ?_⟩
            cases e4 : elt ρ4 with
            | exc cl ρ5 => rw [e4] at h; exact h.elim
            | bad => rw [e4] at h; exact h.elim
            | ok o ρ5 =>
              rw [e4] at h
              simp only at h
              intro z F6 H6 E6 S6 f6 k6 M6 dj6 r6
              have hD6 : H6 D = some (.lst va) := by rw [k6 D (.inr (.inl rfl))]; exact hD5
              have ra6 : RpOs K F6 H6 va acc.reverse Sa := ra5.frame f6 fun a x => k6 a (.inr (.inr x))
              have l6 : va.length = acc.length := by rw [ra6.len, List.length_reverse]
              have nS6 : ¬ S6 D := fun x => dj6 D (.inr (.inl rfl)) x
              refine ⟨va, hD6, by rw [l6, line_eq]; omega, ?_⟩
              have M7 := (MI.write (ob := .lst (va ++ [z])) (T := fun a => T a ∨ S6 a) (S := fun a => a = D ∨ Sa a) (M6.less fun a x => by
                rcases x with (x | x) | x
                · exact .inl (.inl x)
                · exact .inr x
                · exact .inl (.inr x)) (fun a x y => x.elim (fun x => d2 a x y) fun x => dj6 a (.inr y) x) (p := D) (.inl rfl)).wipe hp
              rw [hw] at M7
              have up : ∀ {A : Addr → Prop}, ¬ A D → ∀ a, A a → (upd H6 D (.lst (va ++ [z]))) a = H6 a := fun nA a x => upd_ne fun e => nA (e ▸ x)
              refine ⟨ρ5, F6, E6, o :: acc, va ++ [z], fun a => Sa a ∨ S6 a, M7.less fun a x => ?_, fun a x y => ?_, upd_same, ?_, fun x => x.elim nD nS6, f2.trans (f3.trans (f5.trans f6)), by simpa using hac, fun a x => ?_, h⟩
              · rcases x with x | x | x | x
                · exact .inl (.inl x)
                · exact .inr (.inl x)
                · exact .inr (.inr x)
                · exact .inl (.inr x)
              · rcases y with y | y | y
                · exact d2 a x (.inl y)
                · exact d2 a x (.inr y)
                · exact dj6 a (.inl x) y
              · rw [List.reverse_cons]
                exact (ra6.frame (Same.refl _) (up nD)).snoc (r6.frame (Same.refl _) (up nS6)) fun a x y => dj6 a (.inr (.inr x)) y
              · rw [up (fun x => d2 D x (.inl rfl)) a x, k6 a (.inl x)]
                exact fr5 a x
end
section
variable {X : Cx} {c : Cc} {W : WX} {elt tg iter e : Expr} {ifs : List Expr} {scope : Scope} {own : List (Str × Nat)} {pos spos py : Pos} {t : Tg} {src : Ev → R (List U)} {test : Ev → R Bool} {m : ME} {y : Str} {i : Nat}
abbrev PTsM (X : Cx) (c : Cc) (W : WX) (ifs : List Expr) (t : Ev → R Bool) : Prop := PTs X ifs (tMT X.K c X.mg W t)
theorem ts_nil : PTsM X c W [] bYes := ⟨fun pins s σ H Q I ⟨ρ, F, E, T, M, h⟩ => pts_nil.run pins s σ H Q I (h true F H E Em (Same.refl F) (fun _ _ => rfl) M.em (fun _ _ x => x) rfl)⟩
theorem ts_one (h : PTM X c W e test) : PTsM X c W [e] test := pts_one h
theorem x_lc (hc : X.calm = true) (hN : X.N.Nodup) (hi : PIM X c W tg iter src) (ok : BlkOk X.N X.env.scope scope own)
    (hg : ∀ (s : Shared) (H : Hp) (C : Addr) (cl : List (Str × Addr)) (fp : List Addr), PG (X.blk s H scope (compEnvC scope cl C X.env) fp) tg (gTg X.K t)) (ht : ∀ (s : Shared) (H : Hp) (C : Addr) (cl : List (Str × Addr)) (fp : List Addr), PTsM (X.blk s H scope (compEnvC scope cl C X.env) fp) c WF ifs test)
    (he : ∀ (s : Shared) (H : Hp) (C : Addr) (cl : List (Str × Addr)) (fp : List Addr), PM (X.blk s H scope (compEnvC scope cl C X.env) fp) c WF elt m)
    (hp : ∀ i, i ∈ own.map (·.2) → c.pin i = none) (hs : ∀ i, i ∈ t.slots → i ∈ own.map (·.2)) (hf : t.free c) (hfs : ∀ x, foldedSetIterable iter X.env x = pure x := by intro _; rfl) :
    PM X c W (.ListComp elt [⟨tg, iter, ifs, 0⟩] scope pos) (mLc t (own.map (·.2)) src test m) :=
  pe_conv (pe_lc hc hN hi ok hg ht he hfs) fun σ H Q q => conv_lc hp hs hf σ H Q q
theorem s_setLc (i : Nat) (hc : X.calm = true) (hN : X.N.Nodup) (hy : X.N[i]? = some y) (hyl : X.env.scope.names.lookup y = some .local) (hpi : c.pin i = none)
    (hsw : swapsWith (.ListComp elt [⟨tg, iter, ifs, 0⟩] scope pos) (some (.Name y py)) spos.line X.env = pure true) (hi : PIM X c W tg iter src) (ok : BlkOk X.N X.env.scope scope own)
    (hg : ∀ (s : Shared) (H : Hp) (C : Addr) (cl : List (Str × Addr)) (fp : List Addr), PG (X.blk s H scope (compEnvC scope cl C X.env) fp) tg (gTg X.K t)) (ht : ∀ (s : Shared) (H : Hp) (C : Addr) (cl : List (Str × Addr)) (fp : List Addr), PTsM (X.blk s H scope (compEnvC scope cl C X.env) fp) c WF ifs test)
    (he : ∀ (s : Shared) (H : Hp) (C : Addr) (cl : List (Str × Addr)) (fp : List Addr), PM (X.blk s H scope (compEnvC scope cl C X.env) fp) c WF elt m)
    (hp : ∀ i, i ∈ own.map (·.2) → c.pin i = none) (hs : ∀ i, i ∈ t.slots → i ∈ own.map (·.2)) (hf : t.free c) (hfs : ∀ x, foldedSetIterable iter X.env x = pure x := by intro _; rfl) :
    PSM X c W (.Assign [.Name y py] (.ListComp elt [⟨tg, iter, ifs, 0⟩] scope pos) spos) (sSet i (mLc t (own.map (·.2)) src test m)) :=
  ps_conv (ps_setLc hc hN hy hyl hsw hi ok hg ht he hfs) fun D σ H q => conv_lc hp hs hf σ H _ (conv_set hpi σ H q)
end
end MM
namespace MM
open PySem L2

section
variable {K : PySem.W.Frag} {c : Cc} {g : Str → Option Value} {W : WX} {ρ ρ' : Ev} {σ σ' : St} {F F' H H' : Hp} {E E' T T' S S1 S2 : Addr → Prop} {v : V} {o : O} {u : U} {D : Ends}
theorem RpOs.set : ∀ {vs : List V} {os : List O} {S1 S2 : Addr → Prop} {v : V} {o : O} (j : Nat), RpOs K F H vs os S1 → RpO K F H v o S2 → (∀ a, S1 a → S2 a → False) → RpOs K F H (vs.set j v) (os.set j o) (fun a => S1 a ∨ S2 a)
  | [], [], _, _, _, _, _, .nil, _, _ => .nil
  | w :: vs, x :: os, _, _, _, _, 0, .cons (S1 := A1) (S2 := A2) q qs s1 s2 dd, r', d => .cons r' qs (fun a x => .inr x) (fun a x => .inl (s2 a x)) fun a x y => d a (s2 a y) x
  | w :: vs, x :: os, _, _, _, _, j + 1, .cons (S1 := A1) (S2 := A2) q qs s1 s2 dd, r', d => by
    refine .cons q (RpOs.set j qs r' fun a x y => d a (s2 a x) y) (fun a x => .inl (s1 a x)) (fun a x => ?_) (fun a x y => ?_)
    · rcases x with x | x
      · exact .inl (s2 a x)
      · exact .inr x
    · rcases y with y | y
      · exact dd a x y
      · exact d a (s1 a x) y
def putIx (i : Nat) (k : Int) (o : O) (ρ : Ev) : Fl := match ρ[i]? with
  | some (some (.ol os)) => match ixN os.length k with
    | some j => .nx (ρ.set i (some (.ol (os.set j o))))
    | none => .bad
  | _ => .bad
theorem putIx_ok {i : Nat} {k : Int} {x : V} (M : MI K c ρ σ F H E (fun a => T a ∨ S a)) (dj : ∀ a, T a → S a → False) (r : RpO K F H x o S) (hT : ∀ a, T a → False) (h : GotS K c g W D F (putIx i k o ρ)) : ∃ ov, σ[i]? = some (some ov) ∧ rSetL ov (.int k) x H fun H' => D.nx σ H' := by
  unfold putIx at h
  cases q : ρ[i]? with
  | none => rw [q] at h; exact h.elim
  | some y =>
    cases y with
    | none => rw [q] at h; exact h.elim
    | some o1 =>
      cases o1 with
      | sh u => rw [q] at h; exact h.elim
      | ot os => rw [q] at h; exact h.elim
      | od os => rw [q] at h; exact h.elim
      | nd os => rw [q] at h; exact h.elim
      | nf os => rw [q] at h; exact h.elim
      | ins _ _ => rw [q] at h; exact h.elim
      | fi _ _ => rw [q] at h; exact h.elim
      | dl _ _ => rw [q] at h; exact h.elim
      | df _ => rw [q] at h; exact h.elim
      | sc os => rw [q] at h; exact h.elim
      | ol os =>
        rw [q] at h
        simp only at h
        cases e : ixN os.length k with
        | none => rw [e] at h; exact h.elim
        | some j =>
          rw [e] at h
          obtain ⟨v1, S', E2, hv, rr, M2, d2⟩ := M.take q
          cases rr with
          | @ol p vs _ _ B hp hps rs s1 n1 =>
            refine ⟨_, hv, p, vs, k, j, rfl, rfl, hp, by rw [rs.len]; exact e, ?_⟩
            have nS : ¬ S p := fun x => d2 p (.inr x) hps
            have M3 := MI.write (ob := .lst (vs.set j x)) M2 d2 hps
            have up : ∀ {A : Addr → Prop}, ¬ A p → ∀ a, A a → (upd H p (.lst (vs.set j x))) a = H a := fun nA a x => upd_ne fun e => nA (e ▸ x)
            have M4 : MI K c (ρ.set i none) σ F (upd H p (.lst (vs.set j x))) E2 (fun a => T a ∨ (a = p ∨ (B a ∨ S a))) := M3.less fun a x => by
              rcases x with x | x | x | x
              · exact .inl (.inl x)
              · subst x; exact .inr hps
              · exact .inr (s1 a x)
              · exact .inl (.inr x)
            have M5 := M4.back (o := .ol (os.set j o)) (v := .ref p) (i := i) (fun a x _ => hT a x) (.ol upd_same (.inl rfl) (RpOs.set j (rs.frame (Same.refl F) (up n1)) (r.frame (Same.refl F) (up nS)) fun a x y => d2 a (.inr y) (s1 a x)) (fun a x => .inr x) (fun x => x.elim n1 nS)) hv
            rw [List.set_set] at M5
            exact h σ F _ _ (Same.refl F) (M5.less fun a x => x.elim)
def olAt (i : Nat) (ρ : Ev) : Bool := match ρ[i]? with
  | some (some (.ol _)) => true
  | _ => false
def sSetIx (i : Nat) (idx : Ag) (m : ME) : MS := sE m fun o ρ => match olAt i ρ with
  | true => match evA idx ρ with
    | .ok d ρ1 => match oOf ρ1 d with
      | some z => match intE z with
        | some k => putIx i k o ρ1
        | none => .bad
      | none => .bad
    | .exc cl r => .exc cl r
    | .bad => .bad
  | false => .bad
theorem olAt_ok {i : Nat} (M : MI K c ρ σ F H E T) (h : olAt i ρ = true) : ∃ p vs, σ[i]? = some (some (.ref p)) ∧ H p = some (.lst vs) := by
  unfold olAt at h
  split at h
  · rename_i os q
    obtain ⟨v, S, h1, r, _⟩ := M.env.get q
    cases r with
    | ol hp _ _ _ _ => exact ⟨_, _, h1, hp⟩
  · cases h
theorem exS {cl : Str} {ρ : Ev} {α β : Type} {F0 : Hp} {rel : Hp → Hp → β → α → (Addr → Prop) → Prop} {Q' : β → Hp → Prop} (h : GotS K c g W D F0 (.exc cl ρ)) (f : Same F0 F := by first | exact Same.refl _ | assumption) : Got K c g W rel σ F H T Q' (.exc cl ρ) := fun C F' H' E' a q M => h C σ F' H' E' a (f.trans q) M
theorem RpO.frame_sh (r : RpO K F H v (.sh u) S) (f : Same F F') : RpO K F' H' v (.sh u) Em := by
  cases r with | sh d => exact .sh (Dq.mono f _ _ d)
theorem conv_setIx {i : Nat} {idx : Ag} {m : ME} (σ : St) (H : Hp) (h : tS K c g W (sSetIx i idx m) D σ H) : tAsg (tM K c g W m) (gSub (tVar i) (tAg K c g W idx) rSetL) D σ H := by
  refine run_e h fun o ρ x F1 H1 E1 S1 => .inr fun q M r => ?_
  cases e0 : olAt i ρ with
  | false => rw [e0] at q; exact q.elim
  | true =>
    rw [e0] at q
    simp only at q
    obtain ⟨p, vs, hov, _⟩ := olAt_ok M e0
    refine ⟨.ref p, hov, run_ag (T := S1) M ?_⟩
    cases e : evA idx ρ with
    | exc cl ρ1 => rw [e] at q; exact exS q
    | bad => rw [e] at q; exact q.elim
    | ok d ρ1 =>
      rw [e] at q
      simp only at q
      intro iv F2 H2 E2 S2 f2 k2 M2 d2 r2
      cases e2 : oOf ρ1 d with
      | none => rw [e2] at q; exact q.elim
      | some z =>
        rw [e2] at q
        simp only at q
        cases e3 : intE z with
        | none => rw [e3] at q; exact q.elim
        | some k =>
          rw [e3] at q
          obtain ⟨S', r', _⟩ := r2.rp M2 (fun a x => .inr x) e2
          have := intE_ok r' e3
          subst this
          obtain ⟨ov', h1, h2⟩ := putIx_ok (T := Em) (S := S1) (M2.less fun a x => .inl (emL a x)) (fun _ x _ => x) (r.frame f2 fun a x => k2 a x) (fun _ x => x) (GotS.up q f2)
          rw [hov] at h1
          cases h1
          exact h2
def rGetL (K : PySem.W.Frag) : V → V → Hp → VK → Prop := rIxL K
theorem get_list {X : Cx} : PGet X (rGetL X.K) := by
  intro pins s σ H o i ov iv Q I ro ri h
  obtain ⟨p, xs, k, z, rfl, rfl, hq, he, q⟩ := h
  have eo : ov = .ref p := ro
  subst eo
  obtain ⟨t, rfl⟩ := ri
  obtain ⟨its, r, pl, _⟩ := I.list hq
  obtain ⟨j, h1, h2, h3, h4, h5⟩ := atI_get he
  obtain ⟨w, ew, rw'⟩ := r.get h2
  have hl := r.length
  have hz : xs.length ≤ sizeLine := (I.list hq).elim fun _ z => z.2.2
  have hn := line63
  by_cases h0 : 0 ≤ k
  · have hj : k.toNat = j := by
      have := seqIndex_of h0 h5
      rw [this] at h1
      exact Option.some.inj h1
    exact PySem.wpAny_getItem_list pl.isList h0 (by omega) (by rw [hj]; simpa using ew) ⟨z, H, I, rw', q⟩
  · have hj : (k + (its.toArray.size : Int)).toNat = j := by
      have := seqIndex_neg (n := xs.length) (show k < 0 by omega) h4
      rw [this] at h1
      rw [List.size_toArray, ← hl]
      exact Option.some.inj h1
    exact PySem.wpAny_getItem_list_neg pl.isList (by omega) (by rw [List.size_toArray]; omega) (by omega) (by rw [hj]; simpa using ew) ⟨z, H, I, rw', q⟩
def sAugIx (fo : O → O → Ev → R O) (i : Nat) (idx a : Ag) : MS := fun ρ => match olAt i ρ with
  | true => match evA idx ρ with
    | .ok d ρ1 => match oOf ρ1 d with
      | some z => match intE z with
        | some k => match ρ1[i]? with
          | some (some (.ol os)) => match shE (at' os k) with
            | some u => match evA a ρ1 with
              | .ok da ρ2 => match oOf ρ2 da with
                | some oa => match fo (.sh u) oa ρ2 with
                  | .ok o ρ3 => putIx i k o ρ3
                  | .exc cl r => .exc cl r
                  | .bad => .bad
                | none => .bad
              | .exc cl r => .exc cl r
              | .bad => .bad
            | none => .bad
          | _ => .bad
        | none => .bad
      | none => .bad
    | .exc cl r => .exc cl r
    | .bad => .bad
  | false => .bad
theorem conv_augIx {r : R2} {fo : O → O → Ev → R O} {i : Nat} {idx a : Ag} (sv : Serves K c g W r fo) (σ : St) (H : Hp) (h : tS K c g W (sAugIx fo i idx a) D σ H) : tAugS (tVar i) (tAg K c g W idx) (tAg K c g W a) (rGetL K) r rSetL D σ H := by
  obtain ⟨ρ, F, E, M, h⟩ := h
  unfold sAugIx at h
  cases e0 : olAt i ρ with
  | false => rw [e0] at h; exact h.elim
  | true =>
    rw [e0] at h
    simp only at h
    obtain ⟨p, vs0, hov, _⟩ := olAt_ok M e0
    refine ⟨.ref p, hov, run_ag M ?_⟩
    cases e : evA idx ρ with
    | exc cl ρ1 => rw [e] at h; exact exS h
    | bad => rw [e] at h; exact h.elim
    | ok d ρ1 =>
      rw [e] at h
      simp only at h
      intro iv F1 H1 E1 S1 f1 k1 M1 d1 r1
      cases e2 : oOf ρ1 d with
      | none => rw [e2] at h; exact h.elim
      | some z =>
        rw [e2] at h
        simp only at h
        cases e3 : intE z with
        | none => rw [e3] at h; exact h.elim
        | some k =>
          rw [e3] at h
          simp only at h
          obtain ⟨S', r', _⟩ := r1.rp M1 (fun a x => .inr x) e2
          have := intE_ok r' e3
          subst this
          cases e4 : ρ1[i]? with
          | none => rw [e4] at h; exact h.elim
          | some y =>
            rw [e4] at h
            match y, h, e4 with
            | none, h, _ => exact h.elim
            | some (.sh _), h, _ => exact h.elim
            | some (.ot _), h, _ => exact h.elim
            | some (.od _), h, _ => exact h.elim
            | some (.nd _), h, _ => exact h.elim
            | some (.nf _), h, _ => exact h.elim
            | some (.ins _ _), h, _ => exact h.elim
            | some (.fi _ _), h, _ => exact h.elim
            | some (.dl _ _), h, _ => exact h.elim
            | some (.df _), h, _ => exact h.elim
            | some (.sc _), h, _ => exact h.elim
            | some (.ol os), h, e4 =>
              simp only at h
              cases e5 : shE (at' os k) with
              | none => rw [e5] at h; exact h.elim
              | some u =>
                rw [e5] at h
                simp only at h
                obtain ⟨v1, S2, hv1, rr, _⟩ := M1.env.get e4
                rw [hov] at hv1
                cases hv1
                cases rr with
                | ol hp _ rs _ _ =>
                  obtain ⟨j, j1, j2⟩ := at_get (shE_ok e5)
                  obtain ⟨x, A, a1, a2, _⟩ := rs.at j1
                  refine ⟨p, _, k, x, rfl, rfl, .inl (.inl hp), at_at (by rw [j2 _ rs.len]; exact a1), ?_⟩
                  refine run_ag M1 ?_
                  have h := GotS.up h f1
                  cases e6 : evA a ρ1 with
                  | exc cl ρ2 => rw [e6] at h; exact exS h
                  | bad => rw [e6] at h; exact h.elim
                  | ok da ρ2 =>
                    rw [e6] at h
                    simp only at h
                    intro y F2 H2 E2 S3 f2 k2 M2 d2 r2
                    cases e7 : oOf ρ2 da with
                    | none => rw [e7] at h; exact h.elim
                    | some oa =>
                      rw [e7] at h
                      simp only at h
                      have h := GotS.up h f2
                      obtain ⟨Sb, rb, hb⟩ := r2.rp M2 (fun a x => .inr x) e7
                      refine sv ρ2 σ F2 H2 E2 _ Em Sb x y (.sh u) oa _ M2 (relO_mono _ _ _ _ _ _ (a2.frame_sh f2) fun _ x => x) rb (fun _ x => x.elim) hb ?_
                      cases e8 : fo (.sh u) oa ρ2 with
                      | exc cl ρ3 => rw [e8] at h; exact exS h
                      | bad => rw [e8] at h; exact h.elim
                      | ok o ρ3 =>
                        rw [e8] at h
                        simp only at h
                        intro w F3 H3 E3 S4 f3 k3 M3 d3 r3
                        obtain ⟨ov', h1, h2⟩ := putIx_ok (T := Em) (S := S4) (M3.less fun a x => .inr (emL a x)) (fun _ x _ => x) r3 (fun _ x => x) (GotS.up h f3)
                        rw [hov] at h1
                        cases h1
                        exact h2
def lpB (t : Tg) (body : MS) (i : Nat) : Nat → Nat → Ev → Fl
  | 0, k, ρ => match ρ[i]? with
    | some (some (.ol os)) => if os.length = k then .nx ρ else .bad
    | _ => .bad
  | n + 1, k, ρ => match ρ[i]? with
    | some (some (.ol os)) => match shE os[k]? with
      | some u => match bind t u ρ with
        | some ρ1 => match body ρ1 with
          | .nx ρ2 => lpB t body i n (k + 1) ρ2
          | .ct ρ2 => lpB t body i n (k + 1) ρ2
          | .bk ρ2 => .nx ρ2
          | .rt o ρ2 => .rt o ρ2
          | .exc cl ρ2 => .exc cl ρ2
          | .bad => .bad
        | none => .bad
      | none => .bad
    | _ => .bad
def sForV (t : Tg) (i : Nat) (body : MS) : MS := fun ρ => match ρ[i]? with
  | some (some (.ol os)) => lpB t body i os.length 0 ρ
  | _ => sFor t (srcA (.var i)) body ρ
theorem conv_forV {t : Tg} {i : Nat} {body : MS} (ht : t.free c) (hi : i ∉ t.slots) (hpin : ∃ v, c.pin i = some v) (σ : St) (H : Hp) (h : tS K c g W (sForV t i body) D σ H) : tFor (tSeq3 K (tVar i)) (gTg K t) (tS K c g W body) D σ H := by
  obtain ⟨ρ, F, E, M, h⟩ := h
  unfold sForV at h
  have other : GotS K c g W D F (sFor t (srcA (.var i)) body ρ) → tFor (tSeq3 K (tVar i)) (gTg K t) (tS K c g W body) D σ H := fun h => conv_src (a := .var i) σ H _ (conv_for ht σ H ⟨ρ, F, E, M, h⟩)
  cases e4 : ρ[i]? with
  | none => rw [e4] at h; exact other h
  | some y =>
    rw [e4] at h
    match y, h, e4 with
    | none, h, _ => exact other h
    | some (.sh _), h, _ => exact other h
    | some (.ot _), h, _ => exact other h
    | some (.od _), h, _ => exact other h
    | some (.nd _), h, _ => exact other h
    | some (.nf _), h, _ => exact other h
    | some (.ins _ _), h, _ => exact other h
    | some (.fi _ _), h, _ => exact other h
    | some (.dl _ _), h, _ => exact other h
    | some (.df _), h, _ => exact other h
    | some (.sc _), h, _ => exact other h
    | some (.ol os), h, e4 =>
      simp only at h
      obtain ⟨pv, hpv⟩ := hpin
      have hov := M.pins i pv hpv
      obtain ⟨v1, S2, hv1, rr, _⟩ := M.env.get e4
      rw [hov] at hv1
      cases hv1
      cases rr with
      | @ol p vs _ _ B hp hps rs s1 n1 =>
        refine ⟨.ref p, hov, .inl ⟨p, rfl, ⟨vs, .inl (.inl hp)⟩, ?_⟩⟩
        refine ⟨fun k m σ H => ∃ ρ F E, MI K c ρ σ F H E Em ∧ GotS K c g W D F (lpB t body i m k ρ), ⟨os.length, ρ, F, E, M, h⟩, ?_⟩
        rintro k m σ H ⟨ρ, F, E, M, h⟩
        have hov := M.pins i _ hpv
        cases m with
        | zero =>
          simp only [lpB] at h
          cases e5 : ρ[i]? with
          | none => rw [e5] at h; exact h.elim
          | some y =>
            rw [e5] at h
            match y, h, e5 with
            | none, h, _ => exact h.elim
            | some (.sh _), h, _ => exact h.elim
            | some (.ot _), h, _ => exact h.elim
            | some (.od _), h, _ => exact h.elim
            | some (.nd _), h, _ => exact h.elim
            | some (.nf _), h, _ => exact h.elim
            | some (.ins _ _), h, _ => exact h.elim
            | some (.fi _ _), h, _ => exact h.elim
            | some (.dl _ _), h, _ => exact h.elim
            | some (.df _), h, _ => exact h.elim
            | some (.sc _), h, _ => exact h.elim
            | some (.ol os), h, e5 =>
              simp only at h
              split at h
              · rename_i hl
                obtain ⟨v1, _, hv1, rr, _⟩ := M.env.get e5
                rw [hov] at hv1
                cases hv1
                cases rr with
                | ol hp _ rs _ _ => exact .inl ⟨⟨_, .inl (.inl hp), by rw [rs.len, hl]; exact Nat.le_refl _⟩, h σ F H E (Same.refl _) M⟩
              · exact h.elim
        | succ m =>
          simp only [lpB] at h
          cases e5 : ρ[i]? with
          | none => rw [e5] at h; exact h.elim
          | some y =>
            rw [e5] at h
            match y, h, e5 with
            | none, h, _ => exact h.elim
            | some (.sh _), h, _ => exact h.elim
            | some (.ot _), h, _ => exact h.elim
            | some (.od _), h, _ => exact h.elim
            | some (.nd _), h, _ => exact h.elim
            | some (.nf _), h, _ => exact h.elim
            | some (.ins _ _), h, _ => exact h.elim
            | some (.fi _ _), h, _ => exact h.elim
            | some (.dl _ _), h, _ => exact h.elim
            | some (.df _), h, _ => exact h.elim
            | some (.sc _), h, _ => exact h.elim
            | some (.ol os), h, e5 =>
              simp only at h
              cases e6 : shE os[k]? with
              | none => rw [e6] at h; exact h.elim
              | some u =>
                rw [e6] at h
                simp only at h
                obtain ⟨v1, _, hv1, rr, _⟩ := M.env.get e5
                rw [hov] at hv1
                cases hv1
                cases rr with
                | ol hp _ rs _ _ =>
                  obtain ⟨x, A, a1, a2, _⟩ := rs.at (shE_ok e6)
                  refine .inr ⟨⟨_, x, .inl (.inl hp), a1⟩, fun σ H => ∃ ρ F E, MI K c ρ σ F H E Em ∧ GotS K c g W D F (lpB t body i m (k + 1) ρ), fun σ' H' q => ⟨m, Nat.lt_succ_self _, q⟩, fun y H' ⟨eH, ey⟩ => ?_⟩
                  subst eH
                  have : some x = some y := a1.symm.trans (ey _ (.inl (.inl hp)))
                  cases this
                  cases a2 with
                  | sh dx =>
                    cases e7 : bind t u ρ with
                    | none => rw [e7] at h; exact h.elim
                    | some ρ2 =>
                      rw [e7] at h
                      simp only at h
                      refine bind_ok ht M dx e7 fun σ E _ M => ⟨ρ2, F, E, M, ?_⟩
                      cases e3 : body ρ2 with
                      | nx ρ3 => rw [e3] at h; exact fun σ F H E q M => ⟨ρ3, F, E, M, GotS.up h q⟩
                      | ct ρ3 => rw [e3] at h; exact fun σ F H E q M => ⟨ρ3, F, E, M, GotS.up h q⟩
                      | bk ρ3 => rw [e3] at h; exact h
                      | rt o ρ3 => rw [e3] at h; exact h
                      | exc cl ρ3 => rw [e3] at h; exact h
                      | bad => rw [e3] at h; exact h
end
section
variable {X : Cx} {c : Cc} {W : WX} {e e2 eo ei : Expr} {a idx : Ag} {m : ME} {n : MS} {pos p2 : Pos} {x : Str} {i : Nat}
theorem s_setIx (i : Nat) (ho : PE X eo (tVar i)) (hi : PX X c W ei idx) (he : PM X c W e m) (ha : ∀ v, assign (.Subscript eo ei p2) X.env v = (do
      let ov ← holding [v] (eval eo X.env)
      let iv ← holding [v, ov] (eval ei X.env)
      standAt p2
      holding [v, ov, iv] (setItem ov iv v)
      release [v, ov, iv] []) := by intro _; rfl) (hs : swapsWithSole [.Subscript eo ei p2] e pos.line X.env = pure false := by rfl) (hw : swappedStores [.Subscript eo ei p2] e X.env = pure none := by rfl)
    (h1 : (assignEach [.Subscript eo ei p2] X.env).map (·.2) = [assign (.Subscript eo ei p2) X.env] := by rfl) : PSM X c W (.Assign [.Subscript eo ei p2] e pos) (sSetIx i idx m) :=
  ps_conv (ps_asg he (pg_sub ho hi set_list ha) hs hw h1) fun D σ H q => conv_setIx σ H q
theorem s_augIx {op : Operator} {r : R2} {fo : O → O → Ev → R O} (sv : Serves X.K c X.mg W r fo) (hop : PIp X op r) (i : Nat) (ho : PE X eo (tVar i)) (hi : PX X c W ei idx) (he : PX X c W e a) (ha : ∀ ov iv new, augStore ei ov iv new = (do holding [new, ov, iv] (setItem ov iv new); release [new, ov, iv] []; pure .next) := by intros; rfl) :
    PSM X c W (.AugAssign (.Subscript eo ei p2) op e pos) (sAugIx fo i idx a) := ps_conv (ps_augS ho hi get_list he hop set_list ha) fun D σ H q => conv_augIx sv σ H q
theorem s_forV {tg it : Expr} {t : Tg} {body : List Stmt} (i : Nat) (hp : PassesOwn (model X.prog X.w) X.A X.env X.xe) (hc : X.calm = true) (hi : PE X it (tVar i)) (hg : PG X tg (gTg X.K t)) (ht : t.free c) (hn : i ∉ t.slots) (hpin : ∃ v, c.pin i = some v) (hb : PSsM X c W body n) (hs : ∀ x, foldedSetIterable it X.env x = pure x := by intro _; rfl) :
    PSM X c W (.For tg it body [] pos) (sForV t i n) := ps_conv (ps_for hp hc (pi_seq3 hi) hg hb hs) fun D σ H q => conv_forV ht hn hpin σ H q
end
end MM
namespace MM
open PySem L2
inductive Lk where
  | one (fo : O → O → Ev → R O) (a : Ag)
  | more (fo : O → O → Ev → R O) (a : Ag) (rest : Lk)
def mLk : Lk → Dn → ME
  | .one fo b, da, ρ => match evA b ρ with
    | .ok db ρ2 => match oOf ρ2 da with
      | some oa => match oOf ρ2 db with
        | some ob => fo oa ob ρ2
        | none => .bad
      | none => .bad
    | .exc cl r => .exc cl r
    | .bad => .bad
  | .more fo b rest, da, ρ => match evA b ρ with
    | .ok db ρ2 => match oOf ρ2 da with
      | some oa => match oOf ρ2 db with
        | some ob => match fo oa ob ρ2 with
          | .ok z ρ3 => match blE z with
            | some true => mLk rest db ρ3
            | some false => .ok (.sh (.bool false)) ρ3
            | none => .bad
          | .exc cl r => .exc cl r
          | .bad => .bad
        | none => .bad
      | none => .bad
    | .exc cl r => .exc cl r
    | .bad => .bad
def mChn (a : Ag) (l : Lk) : ME := fun ρ => match evA a ρ with
  | .ok da ρ1 => mLk l da ρ1
  | .exc cl r => .exc cl r
  | .bad => .bad
inductive TLk where
  | one (r : R2) (t : TE)
  | more (r : R2) (t : TE) (rest : TLk)
def TLk.run : TLk → V → TE
  | .one r tb, x => fun σ H Q => tb σ H fun y H2 => r x y H2 Q
  | .more r tb rest, x => fun σ H Q => tb σ H fun y H2 => r x y H2 fun z H3 => ∃ k, z = .bl k ∧ (if k = true then rest.run y σ H3 Q else Q (.bl false) H3)
def tChn (ta : TE) (l : TLk) : TE := fun σ H Q => ta σ H fun x H1 => l.run x σ H1 Q
section
variable {K : PySem.W.Frag} {c : Cc} {g : Str → Option Value} {W : WX}
inductive LkOk (K : PySem.W.Frag) (c : Cc) (g : Str → Option Value) (W : WX) : Lk → TLk → Prop
  | one {fo a r} (sv : Serves K c g W r fo) : LkOk K c g W (.one fo a) (.one r (tAg K c g W a))
  | more {fo a r l t} (sv : Serves K c g W r fo) (h : LkOk K c g W l t) : LkOk K c g W (.more fo a l) (.more r (tAg K c g W a) t)
theorem conv_lk {l : Lk} {t : TLk} (ok : LkOk K c g W l t) : ∀ {ρ : Ev} {σ : St} {F0 F H : Hp} {E T S : Addr → Prop} {x : V} {da : Dn} {Q : VK}, MI K c ρ σ F H E T → DnR K σ F H x da S → (∀ a, S a → T a) → Got K c g W (relO K) σ F H T Q (mLk l da ρ) → t.run x σ H Q := by
  induction ok with
  | @one fo b r sv =>
    intro ρ σ F0 F H E T S x da Q M1 r1 hs h
    unfold mLk at h
    refine run_ag M1 ?_
    cases e2 : evA b ρ with
    | exc cl ρ2 => rw [e2] at h; exact h
    | bad => rw [e2] at h; exact h
    | ok db ρ2 =>
      rw [e2] at h
      intro y F2 H2 E2 S2 f2 k2 M2 d2 r2
      simp only at h
      cases e3 : oOf ρ2 da with
      | none => rw [e3] at h; exact h.elim
      | some oa =>
        rw [e3] at h
        simp only at h
        cases e4 : oOf ρ2 db with
        | none => rw [e4] at h; exact h.elim
        | some ob =>
          rw [e4] at h
          simp only at h
          obtain ⟨Sa, ra, ha⟩ := (r1.frame f2 fun a x => k2 a (hs a x)).rp M2 (fun a x => .inl (hs a x)) e3
          obtain ⟨Sb, rb, hb⟩ := r2.rp M2 (fun a x => .inr x) e4
          exact sv ρ2 σ F2 H2 E2 _ Sa Sb x y oa ob _ M2 ra rb ha hb (Got.weak h f2 k2 (fun a x => .inl x) relO_mono)
  | @more fo b r l t sv ok ih =>
    intro ρ σ F0 F H E T S x da Q M1 r1 hs h
    unfold mLk at h
    refine run_ag M1 ?_
    cases e2 : evA b ρ with
    | exc cl ρ2 => rw [e2] at h; exact h
    | bad => rw [e2] at h; exact h
    | ok db ρ2 =>
      rw [e2] at h
      intro y F2 H2 E2 S2 f2 k2 M2 d2 r2
      simp only at h
      cases e3 : oOf ρ2 da with
      | none => rw [e3] at h; exact h.elim
      | some oa =>
        rw [e3] at h
        simp only at h
        cases e4 : oOf ρ2 db with
        | none => rw [e4] at h; exact h.elim
        | some ob =>
          rw [e4] at h
          simp only at h
          obtain ⟨Sa, ra, ha⟩ := (r1.frame f2 fun a x => k2 a (hs a x)).rp M2 (fun a x => .inl (hs a x)) e3
          obtain ⟨Sb, rb, hb⟩ := r2.rp M2 (fun a x => .inr x) e4
          refine sv ρ2 σ F2 H2 E2 _ Sa Sb x y oa ob _ M2 ra rb ha hb ?_
          cases e5 : fo oa ob ρ2 with
          | exc cl ρ3 => rw [e5] at h; exact exU f2 h
          | bad => rw [e5] at h; exact h
          | ok z ρ3 =>
            rw [e5] at h
            simp only at h
            intro zv F3 H3 E3 S3 f3 k3 M3 d3 r3
            cases e6 : blE z with
            | none => rw [e6] at h; exact h.elim
            | some k =>
              rw [e6] at h
              refine ⟨k, blE_ok r3 e6, ?_⟩
              cases k with
              | false =>
                rw [if_neg Bool.false_ne_true]
                have hw := Got.weak h (f2.trans f3) (fun a x => (k3 a (.inl x)).trans (k2 a x)) (T1 := fun a => (T a ∨ S2 a) ∨ S3 a) (fun a x => .inl (.inl x)) relO_mono
                exact hw.sc M3 (.bl false)
              | true =>
                rw [if_pos rfl]
                simp only at h
                have hw := Got.weak h (f2.trans f3) (fun a x => (k3 a (.inl x)).trans (k2 a x)) (T1 := fun a => (T a ∨ S2 a) ∨ S3 a) (fun a x => .inl (.inl x)) relO_mono
                exact ih (F0 := F0) M3 (r2.frame f3 fun a x => k3 a (.inr x)) (fun a x => .inl (.inr x)) hw
theorem conv_chn {a : Ag} {l : Lk} {t : TLk} (ok : LkOk K c g W l t) (σ : St) (H : Hp) (Q : VK) (h : tM K c g W (mChn a l) σ H Q) : tChn (tAg K c g W a) t σ H Q := by
  obtain ⟨ρ, F, E, T, M, h⟩ := h
  unfold mChn at h
  refine run_ag M ?_
  cases e1 : evA a ρ with
  | exc cl ρ1 => rw [e1] at h; exact h
  | bad => rw [e1] at h; exact h
  | ok da ρ1 =>
    rw [e1] at h
    intro x F1 H1 E1 S1 f1 k1 M1 d1 r1
    simp only at h
    exact conv_lk ok (F0 := F) M1 r1 (fun a x => .inr x) (Got.weak h f1 k1 (fun a x => .inl x) relO_mono)
end
section
variable {X : Cx} {a b c d : Expr} {ta tb tc td : TE} {pos : Pos} {op op' op2 : CmpOp} {r r' r2 : R2}
open PyProof.Rows in
open PyProof.Rows in
theorem pt_chain3 (ho : OpR X (compareOp op) r) (ho' : OpR X (compareOp op') r') (ho2 : OpR X (compareOp op2) r2) (ha : PE X a ta) (hb : PE X b tb) (hc : PE X c tc) (hd : PE X d td)
    (hm : lastMarks [op, op', op2] [b, c, d] = false := by with_unfolding_all rfl) : PT X (.Compare a [op, op', op2] [b, c, d] pos) (tTest (tChn ta (.more r tb (.more r' tc (.one r2 td))))) := by
  refine ⟨fun pins s σ H Q I h => ?_⟩
  refine isTrue_chain (thn (ha.run pins s σ H _ I h) fun v s1 ⟨x, H1, I1, r1, q1⟩ => test_link (thn (hb.run pins s1 σ H1 _ I1 q1) fun u s2 ⟨y, H2, I2, rr2, q2⟩ =>
    thn (ho pins s2 σ H2 x y v u _ I2 r1 rr2 q2) fun d s3 ⟨z, H3, I3, r3, k, e, q3⟩ => ?_)) hm
  subst e
  cases r3
  refine wpAny_truthy_bool ?_
  cases k with
  | false =>
    obtain ⟨k', e', q'⟩ := q3
    cases e'
    exact ite_ff ⟨H3, I3, q'⟩
  | true =>
    refine ite_tt (test_link (thn (hc.run pins s3 σ H3 _ I3 q3) fun w' s4 ⟨z', H4, I4, r4, q4⟩ => thn (ho' pins s4 σ H4 y z' u w' _ I4 rr2 r4 q4) fun d2 s5 ⟨z2, H5, I5, r5, k2, e2, q5⟩ => ?_))
    subst e2
    cases r5
    refine wpAny_truthy_bool ?_
    cases k2 with
    | false =>
      obtain ⟨k', e', q'⟩ := q5
      cases e'
      exact ite_ff ⟨H5, I5, q'⟩
    | true =>
      refine ite_tt (test_last (thn (hd.run pins s5 σ H5 _ I5 q5) fun w6 s6 ⟨z6, H6, I6, r6, q6⟩ => thn (ho2 pins s6 σ H6 z' z6 w' w6 _ I6 r4 r6 q6) fun d' s7 ⟨z7, H7, I7, r7, k7, e7, q7⟩ => ?_))
      subst e7
      cases r7
      exact wpAny_truthy_bool ⟨H7, I7, q7⟩
end
section
variable {X : Cx} {c : Cc} {W : WX} {e e1 e2 e3 e4 : Expr} {es : List Expr} {a a1 a2 a3 a4 : Ag} {as : List Ag} {pos p apos : Pos} {op op' op2 : CmpOp} {r r' r2 : R2} {fo fo' fo2 : O → O → Ev → R O}
theorem t_chain3 (sv : Serves X.K c X.mg W r fo) (sv' : Serves X.K c X.mg W r' fo') (sv2 : Serves X.K c X.mg W r2 fo2) (ho : OpR X (compareOp op) r) (ho' : OpR X (compareOp op') r') (ho2 : OpR X (compareOp op2) r2) (h1 : PX X c W e1 a1) (h2 : PX X c W e2 a2) (h3 : PX X c W e3 a3) (h4 : PX X c W e4 a4)
    (hm : lastMarks [op, op', op2] [e2, e3, e4] = false := by with_unfolding_all rfl) : PTM X c W (.Compare e1 [op, op', op2] [e2, e3, e4] pos) (asB (mChn a1 (.more fo a2 (.more fo' a3 (.one fo2 a4))))) :=
  pt_conv (pt_chain3 ho ho' ho2 h1 h2 h3 h4 hm) fun σ H Q q => conv_chn (.more sv (.more sv' (.one sv2))) σ H _ (conv_asB σ H Q q)
def fNeg (o : O) (ρ : Ev) : R O := match intE o with
  | some i => .ok (.sh (.int (-i))) ρ
  | none => .bad
theorem sv_neg {K : PySem.W.Frag} {c : Cc} {g : Str → Option Value} {W : WX} : Serves1 K c g W (rU fun i => .int (-i)) fNeg := by
  intro ρ σ F H E T Sa x oa Q M ra ha h
  unfold fNeg at h
  cases e : intE oa with
  | none => rw [e] at h; exact h.elim
  | some i =>
    rw [e] at h
    have hx := intE_ok ra e
    subst hx
    exact ⟨i, rfl, h.sc M (.int _)⟩
theorem x_neg (ha : PX X c W e a) : PM X c W (.UnaryOp .USub e pos) (mUn fNeg a) := x_un sv_neg un_neg ha
theorem conv_mth0 {K : PySem.W.Frag} {g : Str → Option Value} {r : V → List V → Hp → VK → Prop} {f : List O → List O → Option (O × List O)} {i : Nat} (sv : ServesM K r f) (σ : St) (H : Hp) (Q : VK) (h : tM K c g W (mMth i f []) σ H Q) : tBM0 K "list" r (tVar i) σ H Q := by
  obtain ⟨v, hv, ty, h2⟩ := conv_mth sv σ H Q h
  exact ⟨v, hv, ty, conv_nil σ H _ h2⟩
theorem x_app (i : Nat) (ho : PE X e1 (tVar i)) (ha : PAM X c W [e2] as)
    (hbase : attributeBase e1 "append" X.env (eval e1 X.env) = eval e1 X.env := by rfl)
    (hfew : ((backTo pos (starEach [e2] X.env)).all (fun x => !x.1) && (backToKw pos (keywordEach [] X.env)).all (fun x => x.1.isSome)
      && decide (([e2] : List Expr).length + ([] : List Keyword).length + (if ([] : List Keyword).isEmpty then 0 else 1) < 30)) = true := by rfl)
    (hline : (apos.endLine == pos.line) = true := by rfl) (hs : starEach [e2] X.env = (false, eval e2 X.env) :: starEach [] X.env := by rfl) (hplain : (backTo pos (starEach [] X.env)).any (·.1) = false := by rfl) :
    PM X c W (.Call (.Attribute e1 "append" apos) [e2] [] pos) (mMth i fApp as) :=
  pe_conv (pe_bm PySem.F.plainAttrs_list PySem.F.slot_list_append PySem.F.type_list_append mt_append ho ha hbase hfew hline hs hplain) fun σ H Q q => conv_mth sv_app σ H Q q
end
theorem walk_end {l : PySem.W.OpenLaw} {n k : Nat} {q : Program} {loose : List Str} {XP : (Str → Option Value) → Heap → Prop} {YP : World → Heap → Prop} {d : DefRec} {x : Str} {mf : List O → R O}
    (hn : l.most = some n) (hn2 : n ≤ sizeLine) (hdf : d.params.defaults = []) (hr : Room k callerA)
    (F : ∀ (w : World) (mg : Str → Option Value) (fa : Addr) (h : Heap), YP w h → h.Ns mainGlobals mg → mg d.name = some (.ref fa) →
      ∃ (K : PySem.W.Frag) (fd : FuncData), K.In h ∧ (∀ (s : Shared) (u : Value), BindsTo s fd ⟨[u], []⟩ [(x, u)]) ∧
        ∀ base : Heap, K.In base → base.Ns mainGlobals mg → FnOk l.prog w K mg base (L2.CX l.prog w) k fa fd [x] (spM K mg 1 mf))
    (law : ∀ ns : List Int, ns.length ≤ n → (∀ z ∈ ns, Builtin.Int.intBits z ≤ 1048576) → ∃ outs, mf [.sc (ns.map PyData.int)] = .ok (.sh (.bool true)) outs) :
    PySem.W.WalkO q loose XP YP l.row.toRowW d [] (fun f vs => PySem.call f vs) := by
  refine Att.attach_callB hn hdf fun w s₀ s₁ mg mb fa o pm cd doc a vs ns G Y ho hd hcd hmg hobj hints hlen hbits hg => ?_
  obtain ⟨K, fd, KX, hb, hF⟩ := F w mg fa _ Y G.T.g hmg
  refine law_call KX G.T.g G.T.b G.T.builtins G.T.nolimit hg hobj hints (Nat.le_trans hlen hn2) hr hF hb (fun H hO hS => ?_) fun H e s' h => ?_
  · obtain ⟨outs, e⟩ := law ns hlen hbits
    have dq : ∀ ns : List Int, DqAll K H (ns.map V.int) (ns.map PyData.int) := fun ns => by
      induction ns with
      | nil => exact .nil
      | cons i is ih => exact .cons (.int i) ih
    refine ⟨[.sc (ns.map PyData.int)], H, Em, rfl, Same.refl H, .cons (.sc (S := Em) hS (dq ns)) (.nil (S := Em)) (fun _ x => x) (fun _ x => x) (fun _ x _ => x), fun _ x => x.elim, ?_⟩
    rw [e]
    intro v F' H' Sr So _ _ r
    cases r with
    | sh d => cases d; exact fun _ => rfl
  · obtain ⟨a, B, H', cls, dd, _, _, _, _, _, _, _, hE⟩ := h
    exact hE
end MM
namespace MM
open PySem L2
theorem bt_len : bootBuiltins "len" = some (.builtin "len") := by decide +kernel
theorem bt_abs : bootBuiltins "abs" = some (.builtin "abs") := by decide +kernel
theorem bt_min : bootBuiltins "min" = some (.builtin "min") := by decide +kernel
theorem bt_sum : bootBuiltins "sum" = some (.builtin "sum") := by decide +kernel
theorem bt_all : bootBuiltins "all" = some (.builtin "all") := by decide +kernel
theorem bt_sorted : bootBuiltins "sorted" = some (.builtin "sorted") := by decide +kernel
theorem bt_list : bootBuiltins "list" = some (.type "list") := by decide +kernel
theorem bt_tuple : bootBuiltins "tuple" = some (.type "tuple") := by decide +kernel
theorem bt_int : bootBuiltins "int" = some (.type "int") := by decide +kernel
theorem bt_bool : bootBuiltins "bool" = some (.type "bool") := by decide +kernel
section
variable {K : PySem.W.Frag} {mg : Str → Option Value} {P : Program} {w : World} {h base : Heap}
theorem sta_fun {x : Str} {st : Stmt} {f : Addr} {fd : FuncData} (F : FunD K x x (defArgs st) (defBody st) (defScope st) [] [] f fd) : L2.Fun K x x st f fd := by
  obtain ⟨oc, od, dV, kV, doc, pm, an, cdv, ct, osl, e, lk, hc, hd, hk⟩ := F.ex
  rcases hd with ⟨_, e1⟩ | ⟨e1, _⟩
  · subst e1
    exact ⟨⟨oc, od, kV, doc, pm, an, cdv, ct, osl, e, lk, hc⟩, F.kp⟩
  · exact absurd rfl e1
def ExF (K : PySem.W.Frag) (mg : Str → Option Value) (x : Str) : Prop := ∃ C, PySem.W.excIn K C He.veBase "ValueError.__new__" = true ∧ mg x = some (.ref C) ∧ PySem.W.keepIn K (.ref C) = true ∧ PySem.W.subIn K (.ref C) (.type "BaseException") = some true ∧ PySem.W.typeIn K (.ref C) = some (.type "type")
theorem exf_of (X : K.In h) (G : h.Ns mainGlobals mg) {x : Str} (c : (He.Fa.exc x).ok K = true) (c2 : (He.Fa.glo x).ok K = true) : ExF K mg x := by
  obtain ⟨h1, h2, h3, h4⟩ := He.exc_ok c
  exact ⟨_, h1, He.glo_ok X G c2, h2, h3, h4⟩
theorem law_fact {x y : Str} {st : Stmt} {fa : Addr} {k : Nat} {mf : List O → R O} (X : K.In h) (G : h.Ns mainGlobals mg) (hfa : mg x = some (.ref fa)) (S : Sta K mg x [y] st) (hb : ∀ fd, L2.Fun K x x st fa fd → ∀ (s : Shared) (u : Value), BindsTo s fd ⟨[u], []⟩ [(y, u)])
    (C : ∀ base : Heap, K.In base → base.Ns mainGlobals mg → Cal P w K mg base x [y] k mf) :
    ∃ (K : PySem.W.Frag) (fd : FuncData), K.In h ∧ (∀ (s : Shared) (u : Value), BindsTo s fd ⟨[u], []⟩ [(y, u)]) ∧
        ∀ base : Heap, K.In base → base.Ns mainGlobals mg → FnOk P w K mg base (L2.CX P w) k fa fd [y] (spM K mg 1 mf) := by
  obtain ⟨f, fd, h1, h2, h3⟩ := S.ex
  have ef := hfa.symm.trans h1
  cases ef
  refine ⟨K, fd, X, hb fd h3, fun base hB hN => ?_⟩
  obtain ⟨f', fd', g1, g2, g3, g4, ob, g5, g6⟩ := (C base hB hN).ex
  have ef := hfa.symm.trans g1
  cases ef
  obtain ⟨ob2, g7, g8⟩ := h3.look
  have e2 := g5.symm.trans g7
  cases e2
  have e3 := g6.symm.trans g8
  cases e3
  exact g4
end
section
variable {X : Cx} {c : Cc} {W : WX} {e : Expr} {t : Ev → R Bool} {pos : Pos}
theorem s_raiseX {cl msg : Str} {k : Nat} (hc : X.calm = true) (tk : Takes X W) (T : ExF X.K X.mg cl) (hg : Gl X cl) (hdb : (cl == ("__debug__" : Str)) = false := by decide) {p p2 q2 : Pos} :
    PSM X c W (.Raise (some (.Call (.Name cl p) [.Constant (.str msg) k q2] [] p2)) none pos) (sRaise cl) := by
  obtain ⟨C, h1, h2, h3, h4, h5⟩ := T
  exact s_raise hc tk PySem.F.excBase_ValueError h1 h2 h3 (raises_own h4 h5) hg hdb
end
end MM
namespace MM
open PySem L2
section
variable {α : Type} {ρ ρ1 ρ2 : Ev} {a b d : Ag} {as : List Ag} {m n : ME} {p q : MS} {t u : Ev → R Bool} {o oa ob : O} {da db : Dn} {ds : List Dn} {cl : Str} {fo fo' : O → O → Ev → R O} {f1' : O → Ev → R O} {i j : Nat} {k : Bool} {os xs : List O} {us : List U}
def agV (i : Nat) (ρ : Ev) : Option (Option O) → R Dn
  | some (some _) => .ok (.v i) ρ
  | _ => .bad
def agE : R O → R Dn
  | .ok o ρ => .ok (.o o) ρ
  | .exc c ρ => .exc c ρ
  | .bad => .bad
theorem ev_var : evA (.var i) ρ = agV i ρ ρ[i]? := by
  simp only [evA]
  rcases ρ[i]? with _ | _ | _ <;> rfl
theorem ev_ex : evA (.ex m) ρ = agE (m ρ) := by
  simp only [evA]
  cases m ρ <;> rfl
theorem agV_e : agV i ρ (some (some o)) = .ok (.v i) ρ := (rfl)
theorem agE_o : agE (.ok o ρ) = .ok (.o o) ρ := (rfl)
theorem agE_x : agE (.exc cl ρ) = .exc cl ρ := (rfl)
theorem oo_v : oOf ρ (.v i) = (ρ[i]?).getD none := by
  simp only [oOf]
  cases ρ[i]? <;> rfl
theorem oo_o : oOf ρ (.o o) = some o := (rfl)
def bin3 (fo : O → O → Ev → R O) : Option O → Option O → Ev → R O
  | some a, some b, ρ => fo a b ρ
  | _, _, _ => .bad
def bin2 (fo : O → O → Ev → R O) (da : Dn) : R Dn → R O
  | .ok db ρ => bin3 fo (oOf ρ da) (oOf ρ db) ρ
  | .exc c ρ => .exc c ρ
  | .bad => .bad
def bin1 (fo : O → O → Ev → R O) (b : Ag) : R Dn → R O
  | .ok da ρ => bin2 fo da (evA b ρ)
  | .exc c ρ => .exc c ρ
  | .bad => .bad
theorem bin_e : mBin fo a b ρ = bin1 fo b (evA a ρ) := by
  unfold mBin bin1
  rcases evA a ρ with ⟨da, ρ1⟩ | ⟨c, ρ1⟩ | _ <;> try rfl
  simp only [bin2]
  rcases evA b ρ1 with ⟨db, ρ2⟩ | ⟨c, ρ2⟩ | _ <;> try rfl
  simp only [bin3]
  cases oOf ρ2 da <;> cases oOf ρ2 db <;> rfl
theorem bin1_o : bin1 fo b (.ok da ρ) = bin2 fo da (evA b ρ) := (rfl)
theorem bin2_o : bin2 fo da (.ok db ρ) = bin3 fo (oOf ρ da) (oOf ρ db) ρ := (rfl)
theorem bin3_o : bin3 fo (some oa) (some ob) ρ = fo oa ob ρ := (rfl)
def un2 (f : O → Ev → R O) : Option O → Ev → R O
  | some a, ρ => f a ρ
  | _, _ => .bad
def un1 (f : O → Ev → R O) : R Dn → R O
  | .ok da ρ => un2 f (oOf ρ da) ρ
  | .exc c ρ => .exc c ρ
  | .bad => .bad
theorem un_e : mUn f1' a ρ = un1 f1' (evA a ρ) := by
  unfold mUn un1
  rcases evA a ρ with ⟨da, ρ1⟩ | ⟨c, ρ1⟩ | _ <;> try rfl
  simp only [un2]
  cases oOf ρ1 da <;> rfl
theorem un1_o : un1 f1' (.ok da ρ) = un2 f1' (oOf ρ da) ρ := (rfl)
theorem un2_o : un2 f1' (some oa) ρ = f1' oa ρ := (rfl)
def evs2 (d : Dn) : R (List Dn) → R (List Dn)
  | .ok ds ρ => .ok (d :: ds) ρ
  | .exc c ρ => .exc c ρ
  | .bad => .bad
def evs1 (as : List Ag) : R Dn → R (List Dn)
  | .ok d ρ => evs2 d (evAs as ρ)
  | .exc c ρ => .exc c ρ
  | .bad => .bad
theorem evs_n : evAs [] ρ = .ok [] ρ := (rfl)
theorem evs_c : evAs (a :: as) ρ = evs1 as (evA a ρ) := by
  unfold evs1
  rw [evAs]
  rcases evA a ρ with ⟨da, ρ1⟩ | ⟨c, ρ1⟩ | _ <;> try rfl
theorem evs1_o : evs1 as (.ok da ρ) = evs2 da (evAs as ρ) := (rfl)
theorem evs2_o : evs2 da (.ok ds ρ) = .ok (da :: ds) ρ := (rfl)
theorem oso_n : osOf [] = some [] := (rfl)
theorem oso_c : osOf (.o o :: ds) = (osOf ds).map (o :: ·) := by
  rw [osOf]
  cases osOf ds <;> rfl
theorem osa_n : osAt ρ [] = some [] := (rfl)
def osa1 : Option O → Option (List O) → Option (List O)
  | some o, some os => some (o :: os)
  | _, _ => none
theorem osa_c : osAt ρ (da :: ds) = osa1 (oOf ρ da) (osAt ρ ds) := by
  rw [osAt]
  cases oOf ρ da <;> cases osAt ρ ds <;> rfl
theorem osa1_o : osa1 (some o) (some os) = some (o :: os) := (rfl)
theorem omap_s {α β : Type} {f : α → β} {x : α} : (some x).map f = some (f x) := (rfl)
def lst2 : Option (List O) → Ev → R O
  | some os, ρ => if os.length ≤ 16777216 then .ok (.ol os) ρ else .bad
  | _, _ => .bad
def lst1 : R (List Dn) → R O
  | .ok ds ρ => lst2 (osOf ds) ρ
  | .exc c ρ => .exc c ρ
  | .bad => .bad
theorem lst_e : mLst as ρ = lst1 (evAs as ρ) := by
  unfold mLst lst1
  rcases evAs as ρ with ⟨da, ρ1⟩ | ⟨c, ρ1⟩ | _ <;> try rfl
  simp only [lst2]
  cases osOf da <;> rfl
theorem lst1_o : lst1 (.ok ds ρ) = lst2 (osOf ds) ρ := (rfl)
theorem lst2_o (h : os.length ≤ 16777216) : lst2 (some os) ρ = .ok (.ol os) ρ := if_pos h
def tup3 (os : List O) : Option (List U) → Ev → R O
  | some us, ρ => .ok (.sh (.tuple us)) ρ
  | none, ρ => .ok (.ot os) ρ
def tup2 : Option (List O) → Ev → R O
  | some os, ρ => if os.length ≤ 16777216 then tup3 os (allSh os) ρ else .bad
  | _, _ => .bad
def tup1 : R (List Dn) → R O
  | .ok ds ρ => tup2 (osOf ds) ρ
  | .exc c ρ => .exc c ρ
  | .bad => .bad
theorem tup_e : mTup as ρ = tup1 (evAs as ρ) := by
  unfold mTup tup1
  rcases evAs as ρ with ⟨da, ρ1⟩ | ⟨c, ρ1⟩ | _ <;> try rfl
  simp only [tup2]
  cases osOf da with
  | none => rfl
  | some os =>
    simp only [tup3]
    split
    · cases allSh os <;> rfl
    · rfl
theorem tup1_o : tup1 (.ok ds ρ) = tup2 (osOf ds) ρ := (rfl)
theorem tup2_o (h : os.length ≤ 16777216) : tup2 (some os) ρ = tup3 os (allSh os) ρ := if_pos h
theorem tup3_s : tup3 os (some us) ρ = .ok (.sh (.tuple us)) ρ := (rfl)
theorem tup3_n : tup3 os none ρ = .ok (.ot os) ρ := (rfl)
theorem alls_n : allSh [] = some [] := (rfl)
theorem alls_c {x : U} : allSh (.sh x :: os) = (allSh os).map (x :: ·) := by
  rw [allSh]
  cases allSh os <;> rfl
theorem alls_l : allSh (.ol xs :: os) = none := (rfl)
theorem alls_t : allSh (.ot xs :: os) = none := (rfl)
def cb2 (fo : List O → Ev → R O) : Option (List O) → Ev → R O
  | some os, ρ => fo os ρ
  | _, _ => .bad
def cb1 (fo : List O → Ev → R O) : R (List Dn) → R O
  | .ok ds ρ => cb2 fo (osAt ρ ds) ρ
  | .exc c ρ => .exc c ρ
  | .bad => .bad
theorem cb_e {fo : List O → Ev → R O} : mCB fo as ρ = cb1 fo (evAs as ρ) := by
  unfold mCB cb1
  rcases evAs as ρ with ⟨da, ρ1⟩ | ⟨c, ρ1⟩ | _ <;> try rfl
  simp only [cb2]
  cases osAt ρ1 da <;> rfl
theorem cb1_o {fo : List O → Ev → R O} : cb1 fo (.ok ds ρ) = cb2 fo (osAt ρ ds) ρ := (rfl)
theorem cb2_o {fo : List O → Ev → R O} : cb2 fo (some os) ρ = fo os ρ := (rfl)
def call3 (ds : List Dn) (ρ : Ev) : R O → R O
  | .ok o outs => .ok o (putA ds outs ρ)
  | .exc cl outs => .exc cl (putA ds outs ρ)
  | .bad => .bad
def call2 (mf : List O → R O) (ds : List Dn) : Option (List O × Ev) → R O
  | some (os, ρ) => call3 ds ρ (mf os)
  | none => .bad
def call1 (mf : List O → R O) : R (List Dn) → R O
  | .ok ds ρ => call2 mf ds (takeA ds ρ)
  | .exc c ρ => .exc c ρ
  | .bad => .bad
theorem call_e {mf : List O → R O} : mCall mf as ρ = call1 mf (evAs as ρ) := by
  unfold mCall call1
  rcases evAs as ρ with ⟨da, ρ1⟩ | ⟨c, ρ1⟩ | _ <;> try rfl
theorem call1_o {mf : List O → R O} : call1 mf (.ok ds ρ) = call2 mf ds (takeA ds ρ) := (rfl)
theorem call2_o {mf : List O → R O} : call2 mf ds (some (os, ρ)) = call3 ds ρ (mf os) := (rfl)
theorem call3_o : call3 ds ρ (.ok o ρ1) = .ok o (putA ds ρ1 ρ) := (rfl)
theorem call3_x : call3 ds ρ (.exc cl ρ1) = .exc cl (putA ds ρ1 ρ) := (rfl)
def tkO (ds : List Dn) (i : Nat) (ρ : Ev) : Option (Option O) → Option (List O × Ev)
  | some (some (.sh u)) => (takeA ds ρ).map fun p => (.sh u :: p.1, p.2)
  | some (some (.ol os)) => (takeA ds (ρ.set i none)).map fun p => (.ol os :: p.1, p.2)
  | some (some (.ot os)) => (takeA ds (ρ.set i none)).map fun p => (.ot os :: p.1, p.2)
  | some (some (.od os)) => (takeA ds (ρ.set i none)).map fun p => (.od os :: p.1, p.2)
  | some (some (.sc os)) => (takeA ds (ρ.set i none)).map fun p => (.sc os :: p.1, p.2)
  | some (some (.nd os)) => (takeA ds (ρ.set i none)).map fun p => (.nd os :: p.1, p.2)
  | some (some (.nf os)) => (takeA ds (ρ.set i none)).map fun p => (.nf os :: p.1, p.2)
  | some (some (.ins k os)) => (takeA ds (ρ.set i none)).map fun p => (.ins k os :: p.1, p.2)
  | some (some (.fi k os)) => (takeA ds (ρ.set i none)).map fun p => (.fi k os :: p.1, p.2)
  | some (some (.dl k os)) => (takeA ds (ρ.set i none)).map fun p => (.dl k os :: p.1, p.2)
  | some (some (.df os)) => (takeA ds (ρ.set i none)).map fun p => (.df os :: p.1, p.2)
  | _ => none
theorem take_n : takeA [] ρ = some ([], ρ) := (rfl)
theorem take_v : takeA (.v i :: ds) ρ = tkO ds i ρ ρ[i]? := by
  rw [takeA]
  rcases ρ[i]? with _ | _ | o <;> try rfl
  cases o <;> simp only [tkO]
  · cases takeA ds ρ <;> rfl
  all_goals (cases takeA ds (ρ.set i none) <;> rfl)
theorem take_o : takeA (.o o :: ds) ρ = (takeA ds ρ).map fun p => (o :: p.1, p.2) := by
  rw [takeA]
  cases takeA ds ρ <;> rfl
theorem tkO_sh {x : U} : tkO ds i ρ (some (some (.sh x))) = (takeA ds ρ).map fun p => (.sh x :: p.1, p.2) := (rfl)
theorem tkO_ol : tkO ds i ρ (some (some (.ol os))) = (takeA ds (ρ.set i none)).map fun p => (.ol os :: p.1, p.2) := (rfl)
theorem tkO_ot : tkO ds i ρ (some (some (.ot os))) = (takeA ds (ρ.set i none)).map fun p => (.ot os :: p.1, p.2) := (rfl)
theorem tkO_sc : tkO ds i ρ (some (some (.sc us))) = (takeA ds (ρ.set i none)).map fun p => (.sc us :: p.1, p.2) := (rfl)
def ptO (ds : List Dn) (outs : Ev) (i : Nat) (x : Option O) (ρ : Ev) : Option (Option O) → Ev
  | some none => putA ds outs (ρ.set i x)
  | _ => putA ds outs ρ
theorem put_n {outs : Ev} : putA [] outs ρ = ρ := by cases outs <;> rfl
theorem put_o {outs : Ev} {x : Option O} : putA (.o o :: ds) (x :: outs) ρ = putA ds outs ρ := (rfl)
theorem put_v {outs : Ev} {x : Option O} : putA (.v i :: ds) (x :: outs) ρ = ptO ds outs i x ρ ρ[i]? := by
  rw [putA]
  rcases ρ[i]? with _ | _ | o <;> rfl
theorem ptO_n {outs : Ev} {x : Option O} : ptO ds outs i x ρ (some none) = putA ds outs (ρ.set i x) := (rfl)
theorem ptO_s {outs : Ev} {x : Option O} : ptO ds outs i x ρ (some (some o)) = putA ds outs ρ := (rfl)
def call01 (ρ : Ev) : R O → R O
  | .ok o _ => .ok o ρ
  | _ => .bad
theorem call0_e {mf : List O → R O} : mCall0 mf ρ = call01 ρ (mf []) := by
  unfold mCall0 call01
  cases mf [] <;> rfl
theorem call01_o : call01 ρ (.ok o ρ1) = .ok o ρ := (rfl)
def run1 (ks : List Bool) : Fl → R O
  | .rt o ρ => .ok o (outsOf ks ρ)
  | .nx ρ => .ok (.sh .none) (outsOf ks ρ)
  | .exc cl ρ => .exc cl (outsOf ks ρ)
  | _ => .bad
theorem runF_e {ks : List Bool} : runF i ks p os = run1 ks (p (os.map some ++ List.replicate i none)) := by
  unfold runF run1
  cases p (os.map some ++ List.replicate i none) <;> rfl
theorem run1_r {ks : List Bool} : run1 ks (.rt o ρ) = .ok o (outsOf ks ρ) := (rfl)
theorem run1_n {ks : List Bool} : run1 ks (.nx ρ) = .ok (.sh .none) (outsOf ks ρ) := (rfl)
theorem run1_x {ks : List Bool} : run1 ks (.exc cl ρ) = .exc cl (outsOf ks ρ) := (rfl)
theorem outs_n : outsOf [] ρ = [] := (rfl)
theorem outs_t {ks : List Bool} {x : Option O} : outsOf (true :: ks) (x :: ρ) = x :: outsOf ks ρ := (rfl)
theorem outs_f {ks : List Bool} {x : Option O} : outsOf (false :: ks) (x :: ρ) = none :: outsOf ks ρ := (rfl)
def mv1 (i : Nat) (ρ : Ev) : Option (Option O) → R O
  | some (some (.sh u)) => .ok (.sh u) ρ
  | some (some o) => (match viewO o with
    | some u => .ok (.sh u) (ρ.set i (some (.sh u)))
    | none => .bad)
  | _ => .bad
theorem mv_e : mVar i ρ = mv1 i ρ ρ[i]? := by
  unfold mVar mv1
  rcases ρ[i]? with _ | _ | o <;> try rfl
theorem mv1_sh {x : U} : mv1 i ρ (some (some (.sh x))) = .ok (.sh x) ρ := (rfl)
def mv2 (i : Nat) (ρ : Ev) : Option U → R O
  | some u => .ok (.sh u) (ρ.set i (some (.sh u)))
  | none => .bad
theorem mv1_ol : mv1 i ρ (some (some (.ol os))) = mv2 i ρ (viewO (.ol os)) := by
  simp only [mv1, mv2]
theorem mv1_ot : mv1 i ρ (some (some (.ot os))) = mv2 i ρ (viewO (.ot os)) := by
  simp only [mv1, mv2]
theorem mv2_o {x : U} : mv2 i ρ (some x) = .ok (.sh x) (ρ.set i (some (.sh x))) := (rfl)
def mt1 (i : Nat) (ρ : Ev) : Option (Option O) → R O
  | some (some (.sh u)) => .ok (.sh u) ρ
  | some (some o) => .ok o (ρ.set i none)
  | _ => .bad
theorem mt_e : mTake i ρ = mt1 i ρ ρ[i]? := by
  unfold mTake mt1
  rcases ρ[i]? with _ | _ | o <;> try rfl
theorem mt1_sh {x : U} : mt1 i ρ (some (some (.sh x))) = .ok (.sh x) ρ := (rfl)
theorem mt1_ol : mt1 i ρ (some (some (.ol os))) = .ok (.ol os) (ρ.set i none) := (rfl)
theorem mt1_ot : mt1 i ρ (some (some (.ot os))) = .ok (.ot os) (ρ.set i none) := (rfl)
theorem mC_e {x : U} : mC x ρ = .ok (.sh x) ρ := (rfl)
def asb2 : Option Bool → Ev → R Bool
  | some k, ρ => .ok k ρ
  | _, _ => .bad
def asb1 : R O → R Bool
  | .ok o ρ => asb2 (blE o) ρ
  | .exc c ρ => .exc c ρ
  | .bad => .bad
theorem asb_e : asB m ρ = asb1 (m ρ) := by
  unfold asB asb1
  rcases m ρ with ⟨da, ρ1⟩ | ⟨c, ρ1⟩ | _ <;> try rfl
  simp only [asb2]
  cases blE da <;> rfl
theorem asb1_o : asb1 (.ok o ρ) = asb2 (blE o) ρ := (rfl)
theorem asb2_o : asb2 (some k) ρ = .ok k ρ := (rfl)
theorem ble_b : blE (.sh (.bool k)) = some k := (rfl)
def tru2 : Option O → Ev → R Bool
  | some o, ρ => asb2 (truO o) ρ
  | _, _ => .bad
def tru1 : R Dn → R Bool
  | .ok da ρ => tru2 (oOf ρ da) ρ
  | .exc c ρ => .exc c ρ
  | .bad => .bad
theorem tru_e : mTru a ρ = tru1 (evA a ρ) := by
  unfold mTru tru1
  rcases evA a ρ with ⟨da, ρ1⟩ | ⟨c, ρ1⟩ | _ <;> try rfl
  simp only [tru2]
  cases oOf ρ1 da with
  | none => rfl
  | some o => simp only [asb2]; cases truO o <;> rfl
theorem tru1_o : tru1 (.ok da ρ) = tru2 (oOf ρ da) ρ := (rfl)
theorem tru2_o : tru2 (some o) ρ = asb2 (truO o) ρ := (rfl)
def and1 (n : Ev → R Bool) : R Bool → R Bool
  | .ok true ρ => n ρ
  | r => r
theorem and_e : bAnd t u ρ = and1 u (t ρ) := by
  unfold bAnd and1
  rcases t ρ with ⟨_ | _, ρ1⟩ | ⟨c, ρ1⟩ | _ <;> rfl
theorem and1_t : and1 u (.ok true ρ) = u ρ := (rfl)
theorem and1_f : and1 u (.ok false ρ) = .ok false ρ := (rfl)
def or1 (n : Ev → R Bool) : R Bool → R Bool
  | .ok false ρ => n ρ
  | r => r
theorem or_e : bOr t u ρ = or1 u (t ρ) := by
  unfold bOr or1
  rcases t ρ with ⟨_ | _, ρ1⟩ | ⟨c, ρ1⟩ | _ <;> rfl
theorem or1_t : or1 u (.ok true ρ) = .ok true ρ := (rfl)
theorem or1_f : or1 u (.ok false ρ) = u ρ := (rfl)
def not1 : R Bool → R Bool
  | .ok k ρ => .ok (!k) ρ
  | .exc c ρ => .exc c ρ
  | .bad => .bad
theorem not_e : bNot t ρ = not1 (t ρ) := by
  unfold bNot not1
  rcases t ρ with ⟨_ | _, ρ1⟩ | ⟨c, ρ1⟩ | _ <;> rfl
theorem not1_o : not1 (.ok k ρ) = .ok (!k) ρ := (rfl)
def vand2 (n : ME) : Option Bool → Ev → R O
  | some true, ρ => n ρ
  | some false, ρ => .ok (.sh (.bool false)) ρ
  | none, _ => .bad
def vand1 (n : ME) : R O → R O
  | .ok o ρ => vand2 n (blE o) ρ
  | .exc c ρ => .exc c ρ
  | .bad => .bad
theorem vand_e : vAnd m n ρ = vand1 n (m ρ) := by
  unfold vAnd vand1
  rcases m ρ with ⟨da, ρ1⟩ | ⟨c, ρ1⟩ | _ <;> try rfl
  simp only [vand2]
  rcases blE da with _ | _ | _ <;> rfl
theorem vand1_o : vand1 n (.ok o ρ) = vand2 n (blE o) ρ := (rfl)
theorem vand2_t : vand2 n (some true) ρ = n ρ := (rfl)
theorem vand2_f : vand2 n (some false) ρ = .ok (.sh (.bool false)) ρ := (rfl)
def vor2 (n : ME) : Option Bool → Ev → R O
  | some false, ρ => n ρ
  | some true, ρ => .ok (.sh (.bool true)) ρ
  | none, _ => .bad
def vor1 (n : ME) : R O → R O
  | .ok o ρ => vor2 n (blE o) ρ
  | .exc c ρ => .exc c ρ
  | .bad => .bad
theorem vor_e : vOr m n ρ = vor1 n (m ρ) := by
  unfold vOr vor1
  rcases m ρ with ⟨da, ρ1⟩ | ⟨c, ρ1⟩ | _ <;> try rfl
  simp only [vor2]
  rcases blE da with _ | _ | _ <;> rfl
theorem vor1_o : vor1 n (.ok o ρ) = vor2 n (blE o) ρ := (rfl)
theorem vor2_f : vor2 n (some false) ρ = n ρ := (rfl)
theorem vor2_t : vor2 n (some true) ρ = .ok (.sh (.bool true)) ρ := (rfl)
def vnot2 : Option Bool → Ev → R O
  | some k, ρ => .ok (.sh (.bool (!k))) ρ
  | none, _ => .bad
def vnot1 : R O → R O
  | .ok o ρ => vnot2 (blE o) ρ
  | .exc c ρ => .exc c ρ
  | .bad => .bad
theorem vnot_e : vNot m ρ = vnot1 (m ρ) := by
  unfold vNot vnot1
  rcases m ρ with ⟨da, ρ1⟩ | ⟨c, ρ1⟩ | _ <;> try rfl
  simp only [vnot2]
  rcases blE da with _ | _ | _ <;> rfl
theorem vnot1_o : vnot1 (.ok o ρ) = vnot2 (blE o) ρ := (rfl)
theorem vnot2_o : vnot2 (some k) ρ = .ok (.sh (.bool (!k))) ρ := (rfl)
def if1 (m n : ME) : R Bool → R O
  | .ok true ρ => m ρ
  | .ok false ρ => n ρ
  | .exc c ρ => .exc c ρ
  | .bad => .bad
theorem ife_e : mIf t m n ρ = if1 m n (t ρ) := by
  unfold mIf if1
  rcases t ρ with ⟨_ | _, ρ1⟩ | ⟨c, ρ1⟩ | _ <;> rfl
theorem if1_t : if1 m n (.ok true ρ) = m ρ := (rfl)
theorem if1_f : if1 m n (.ok false ρ) = n ρ := (rfl)
def ch4 (fo' : O → O → Ev → R O) (db : Dn) : R Dn → R O
  | .ok dd ρ => bin3 fo' (oOf ρ db) (oOf ρ dd) ρ
  | .exc c ρ => .exc c ρ
  | .bad => .bad
def ch3 (fo' : O → O → Ev → R O) (db : Dn) (d : Ag) : Option Bool → Ev → R O
  | some true, ρ => ch4 fo' db (evA d ρ)
  | some false, ρ => .ok (.sh (.bool false)) ρ
  | none, _ => .bad
def ch2 (fo' : O → O → Ev → R O) (db : Dn) (d : Ag) : R O → R O
  | .ok z ρ => ch3 fo' db d (blE z) ρ
  | .exc c ρ => .exc c ρ
  | .bad => .bad
def ch1 (fo fo' : O → O → Ev → R O) (da : Dn) (d : Ag) : R Dn → R O
  | .ok db ρ => ch2 fo' db d (bin3 fo (oOf ρ da) (oOf ρ db) ρ)
  | .exc c ρ => .exc c ρ
  | .bad => .bad
def ch0 (fo fo' : O → O → Ev → R O) (b d : Ag) : R Dn → R O
  | .ok da ρ => ch1 fo fo' da d (evA b ρ)
  | .exc c ρ => .exc c ρ
  | .bad => .bad
theorem ch_e : mChain fo fo' a b d ρ = ch0 fo fo' b d (evA a ρ) := by
  unfold mChain ch0
  rcases evA a ρ with ⟨da, ρ1⟩ | ⟨c, ρ1⟩ | _ <;> try rfl
  simp only [ch1]
  rcases evA b ρ1 with ⟨db, ρ2⟩ | ⟨c, ρ2⟩ | _ <;> try rfl
  simp only [bin3]
  cases oOf ρ2 da <;> cases oOf ρ2 db <;> try rfl
  simp only [ch2]
  rename_i oa ob
  rcases fo oa ob ρ2 with ⟨z, ρ3⟩ | ⟨c, ρ3⟩ | _ <;> try rfl
  simp only [ch3]
  rcases blE z with _ | _ | _ <;> try rfl
  simp only [ch4]
  rcases evA d ρ3 with ⟨dd, ρ4⟩ | ⟨c, ρ4⟩ | _ <;> try rfl
  simp only [bin3]
  cases oOf ρ4 db <;> cases oOf ρ4 dd <;> rfl
theorem ch0_o : ch0 fo fo' b d (.ok da ρ) = ch1 fo fo' da d (evA b ρ) := (rfl)
theorem ch1_o : ch1 fo fo' da d (.ok db ρ) = ch2 fo' db d (bin3 fo (oOf ρ da) (oOf ρ db) ρ) := (rfl)
theorem ch2_o : ch2 fo' db d (.ok o ρ) = ch3 fo' db d (blE o) ρ := (rfl)
theorem ch3_t : ch3 fo' db d (some true) ρ = ch4 fo' db (evA d ρ) := (rfl)
theorem ch3_f : ch3 fo' db d (some false) ρ = .ok (.sh (.bool false)) ρ := (rfl)
theorem ch4_o {dd : Dn} : ch4 fo' db (.ok dd ρ) = bin3 fo' (oOf ρ db) (oOf ρ dd) ρ := (rfl)
def cn1 (l : Lk) : R Dn → R O
  | .ok da ρ => mLk l da ρ
  | .exc c ρ => .exc c ρ
  | .bad => .bad
theorem cn_e {l : Lk} : mChn a l ρ = cn1 l (evA a ρ) := by
  unfold mChn cn1
  cases evA a ρ <;> rfl
theorem cn1_o {l : Lk} : cn1 l (.ok da ρ) = mLk l da ρ := (rfl)
theorem lk_one : mLk (.one fo b) da ρ = bin2 fo da (evA b ρ) := by
  rw [mLk]
  rcases evA b ρ with ⟨db, ρ2⟩ | ⟨c, ρ2⟩ | _ <;> try rfl
  simp only [bin2, bin3]
  cases oOf ρ2 da <;> cases oOf ρ2 db <;> rfl
def lk3 (l : Lk) (db : Dn) : Option Bool → Ev → R O
  | some true, ρ => mLk l db ρ
  | some false, ρ => .ok (.sh (.bool false)) ρ
  | none, _ => .bad
def lk2 (l : Lk) (db : Dn) : R O → R O
  | .ok z ρ => lk3 l db (blE z) ρ
  | .exc c ρ => .exc c ρ
  | .bad => .bad
def lk1 (fo : O → O → Ev → R O) (l : Lk) (da : Dn) : R Dn → R O
  | .ok db ρ => lk2 l db (bin3 fo (oOf ρ da) (oOf ρ db) ρ)
  | .exc c ρ => .exc c ρ
  | .bad => .bad
theorem lk_more {l : Lk} : mLk (.more fo b l) da ρ = lk1 fo l da (evA b ρ) := by
  rw [mLk]
  rcases evA b ρ with ⟨db, ρ2⟩ | ⟨c, ρ2⟩ | _ <;> try rfl
  simp only [lk1, bin3]
  cases oOf ρ2 da <;> cases oOf ρ2 db <;> try rfl
  simp only [lk2]
  rename_i oa ob
  rcases fo oa ob ρ2 with ⟨z, ρ3⟩ | ⟨c, ρ3⟩ | _ <;> try rfl
  simp only [lk3]
  rcases blE z with _ | _ | _ <;> rfl
theorem lk1_o {l : Lk} : lk1 fo l da (.ok db ρ) = lk2 l db (bin3 fo (oOf ρ da) (oOf ρ db) ρ) := (rfl)
theorem lk2_o {l : Lk} : lk2 l db (.ok o ρ) = lk3 l db (blE o) ρ := (rfl)
theorem lk3_t {l : Lk} : lk3 l db (some true) ρ = mLk l db ρ := (rfl)
theorem lk3_f {l : Lk} : lk3 l db (some false) ρ = .ok (.sh (.bool false)) ρ := (rfl)
def seq1 (q : MS) : Fl → Fl
  | .nx ρ => q ρ
  | r => r
theorem seq_e : sSeq p q ρ = seq1 q (p ρ) := by
  unfold sSeq seq1
  cases p ρ <;> rfl
theorem seq1_n : seq1 q (.nx ρ) = q ρ := (rfl)
theorem seq1_r : seq1 q (.rt o ρ) = .rt o ρ := (rfl)
theorem seq1_b : seq1 q (.bk ρ) = .bk ρ := (rfl)
theorem seq1_c : seq1 q (.ct ρ) = .ct ρ := (rfl)
theorem seq1_x : seq1 q (.exc cl ρ) = .exc cl ρ := (rfl)
def set1 (i : Nat) : R O → Fl
  | .ok o ρ => .nx (ρ.set i (some o))
  | .exc cl r => .exc cl r
  | .bad => .bad
theorem set_e : sSet i m ρ = set1 i (m ρ) := by
  unfold sSet sE set1
  cases m ρ <;> rfl
theorem set1_o : set1 i (.ok o ρ) = .nx (ρ.set i (some o)) := (rfl)
theorem set1_x : set1 i (.exc cl ρ) = .exc cl ρ := (rfl)
def drop1 : R O → Fl
  | .ok o ρ => .nx ρ
  | .exc cl r => .exc cl r
  | .bad => .bad
theorem drop_e : sDrop m ρ = drop1 (m ρ) := by
  unfold sDrop sE drop1
  cases m ρ <;> rfl
theorem drop1_o : drop1 (.ok o ρ) = .nx ρ := (rfl)
theorem drop1_x : drop1 (.exc cl ρ) = .exc cl ρ := (rfl)
def ret1 : R O → Fl
  | .ok o ρ => .rt o ρ
  | .exc cl r => .exc cl r
  | .bad => .bad
theorem ret_e : sRet m ρ = ret1 (m ρ) := by
  unfold sRet sE ret1
  cases m ρ <;> rfl
theorem ret1_o : ret1 (.ok o ρ) = .rt o ρ := (rfl)
theorem ret1_x : ret1 (.exc cl ρ) = .exc cl ρ := (rfl)
theorem retN_e : sRetN ρ = .rt (.sh .none) ρ := (rfl)
theorem nil_e : sNil ρ = .nx ρ := (rfl)
theorem brk_e : sBrk ρ = .bk ρ := (rfl)
theorem cnt_e : sCnt ρ = .ct ρ := (rfl)
theorem raise_e : sRaise cl ρ = .exc cl ρ := (rfl)
def sif1 (p q : MS) : R Bool → Fl
  | .ok true ρ => p ρ
  | .ok false ρ => q ρ
  | .exc c ρ => .exc c ρ
  | .bad => .bad
theorem sif_e : sIf t p q ρ = sif1 p q (t ρ) := by
  unfold sIf sif1
  rcases t ρ with ⟨_ | _, ρ1⟩ | ⟨c, ρ1⟩ | _ <;> rfl
theorem sif1_t : sif1 p q (.ok true ρ) = p ρ := (rfl)
theorem sif1_f : sif1 p q (.ok false ρ) = q ρ := (rfl)
theorem aug_e : sAug fo i a ρ = set1 i (mBin fo (.var i) a ρ) := set_e
def unp3 : Option Ev → Fl
  | some ρ => .nx ρ
  | none => .bad
def unp2 (is : List Nat) (ρ : Ev) : Option (List O) → Fl
  | some os => unp3 (setAll is os ρ)
  | none => .bad
def unp1 (is : List Nat) : R O → Fl
  | .ok o ρ => unp2 is ρ (unpE o)
  | .exc cl r => .exc cl r
  | .bad => .bad
theorem unp_e {is : List Nat} : sUnp is m ρ = unp1 is (m ρ) := by
  unfold sUnp sE unp1
  rcases m ρ with ⟨da, ρ1⟩ | ⟨c, ρ1⟩ | _ <;> try rfl
theorem unp1_o {is : List Nat} : unp1 is (.ok o ρ) = unp2 is ρ (unpE o) := (rfl)
theorem unp2_o {is : List Nat} : unp2 is ρ (some os) = unp3 (setAll is os ρ) := (rfl)
theorem unp3_o : unp3 (some ρ) = .nx ρ := (rfl)
theorem unpE_ol : unpE (.ol os) = some os := (rfl)
theorem unpE_ot : unpE (.ot os) = some os := (rfl)
theorem unpE_tu : unpE (.sh (.tuple us)) = some (shs us) := (rfl)
theorem unpE_li : unpE (.sh (.list us)) = some (shs us) := (rfl)
theorem shs_n : shs [] = [] := (rfl)
theorem shs_c {x : U} : shs (x :: us) = .sh x :: shs us := (rfl)
theorem sal_n : setAll [] [] ρ = some ρ := (rfl)
theorem sal_c {is : List Nat} : setAll (i :: is) (o :: os) ρ = setAll is os (ρ.set i (some o)) := (rfl)
def par2 (i j : Nat) (ρ : Ev) : Option (List O) → Fl
  | some [x, y] => .nx ((ρ.set i (some x)).set j (some y))
  | _ => .bad
def par1 (i j : Nat) : R (List Dn) → Fl
  | .ok ds ρ => par2 i j ρ (osOf ds)
  | .exc cl r => .exc cl r
  | .bad => .bad
theorem par_e : sPar i j as ρ = par1 i j (evAs as ρ) := by
  unfold sPar par1
  rcases evAs as ρ with ⟨ds, ρ1⟩ | ⟨c, ρ1⟩ | _ <;> try rfl
theorem par1_o : par1 i j (.ok ds ρ) = par2 i j ρ (osOf ds) := (rfl)
theorem par2_o : par2 i j ρ (some [oa, ob]) = .nx ((ρ.set i (some oa)).set j (some ob)) := (rfl)
def for1 (t : Tg) (body : MS) : R (List U) → Fl
  | .ok us ρ => lpF t body us ρ
  | .exc cl r => .exc cl r
  | .bad => .bad
theorem for_e {t : Tg} {src : Ev → R (List U)} : sFor t src p ρ = for1 t p (src ρ) := by
  unfold sFor for1
  cases src ρ <;> rfl
theorem for1_o {t : Tg} : for1 t p (.ok us ρ) = lpF t p us ρ := (rfl)
def lp2 (t : Tg) (p : MS) (us : List U) : Fl → Fl
  | .nx ρ => lpF t p us ρ
  | .ct ρ => lpF t p us ρ
  | .bk ρ => .nx ρ
  | r => r
def lp1 (t : Tg) (p : MS) (us : List U) : Option Ev → Fl
  | some ρ => lp2 t p us (p ρ)
  | none => .bad
theorem lp_n {t : Tg} : lpF t p [] ρ = .nx ρ := (rfl)
theorem lp_c {t : Tg} {x : U} : lpF t p (x :: us) ρ = lp1 t p us (bind t x ρ) := by
  rw [lpF]
  cases bind t x ρ with
  | none => rfl
  | some ρ1 => simp only [lp1]; cases p ρ1 <;> rfl
theorem lp1_o {t : Tg} : lp1 t p us (some ρ) = lp2 t p us (p ρ) := (rfl)
theorem lp2_n {t : Tg} : lp2 t p us (.nx ρ) = lpF t p us ρ := (rfl)
theorem lp2_c {t : Tg} : lp2 t p us (.ct ρ) = lpF t p us ρ := (rfl)
theorem lp2_b {t : Tg} : lp2 t p us (.bk ρ) = .nx ρ := (rfl)
theorem lp2_r {t : Tg} : lp2 t p us (.rt o ρ) = .rt o ρ := (rfl)
theorem lp2_x {t : Tg} : lp2 t p us (.exc cl ρ) = .exc cl ρ := (rfl)
theorem bind_nm {x : U} : bind (.nm i) x ρ = some (ρ.set i (some (.sh x))) := (rfl)
theorem bind_tt {is : List Nat} : bind (.tp is) (.tuple us) ρ = setAll is (shs us) ρ := (rfl)
theorem bind_tl {is : List Nat} : bind (.tp is) (.list us) ρ = setAll is (shs us) ρ := (rfl)
def sr3 (ρ : Ev) : Option (List U) → R (List U)
  | some us => .ok us ρ
  | none => .bad
def sr2 (ρ : Ev) : Option (List Int) → R (List U)
  | some is => sr3 ρ (rngF is)
  | none => .bad
def sr1 : R (List Dn) → R (List U)
  | .ok ds ρ => sr2 ρ ((osAt ρ ds).bind intsO)
  | .exc cl r => .exc cl r
  | .bad => .bad
theorem sr_e : srcR as ρ = sr1 (evAs as ρ) := by
  unfold srcR sr1
  rcases evAs as ρ with ⟨ds, ρ1⟩ | ⟨c, ρ1⟩ | _ <;> try rfl
  simp only
  cases osAt ρ1 ds with
  | none => rfl
  | some os =>
    simp only [Option.bind_some]
    cases intsO os with
    | none => rfl
    | some is => simp only [sr2]; cases rngF is <;> rfl
theorem sr1_o : sr1 (.ok ds ρ) = sr2 ρ ((osAt ρ ds).bind intsO) := (rfl)
theorem sr2_o {is : List Int} : sr2 ρ (some is) = sr3 ρ (rngF is) := (rfl)
theorem sr3_o : sr3 ρ (some us) = .ok us ρ := (rfl)
theorem inO_n : intsO [] = some [] := (rfl)
theorem inO_c {x : Int} : intsO (.sh (.int x) :: os) = (intsO os).map (x :: ·) := by
  rw [intsO]
  simp only [intE]
  cases intsO os <;> rfl
theorem rng1 {x : Int} (h : near x = true) : rngF [x] = some (rngU 0 x.toNat) := if_pos h
theorem rng2 {x y : Int} (h : near x = true) (h2 : near y = true) : rngF [x, y] = some (rngU x (y - x).toNat) := by
  simp only [rngF, h, h2, Bool.and_self, if_true]
theorem fI_e {f : Int → Int → Option U} {x y : Int} {z : U} (h : f x y = some z) : fI f (.sh (.int x)) (.sh (.int y)) ρ = .ok (.sh z) ρ := by
  simp only [fI, intE, h]
theorem f_sub {x y : Int} : fI iSub (.sh (.int x)) (.sh (.int y)) ρ = .ok (.sh (.int (x - y))) ρ := (rfl)
theorem f_add {x y : Int} : fAdd (.sh (.int x)) (.sh (.int y)) ρ = .ok (.sh (.int (x + y))) ρ := (rfl)
theorem f_lt {x y : Int} : fI iLt (.sh (.int x)) (.sh (.int y)) ρ = .ok (.sh (.bool (decide (x < y)))) ρ := (rfl)
theorem f_le {x y : Int} : fI iLe (.sh (.int x)) (.sh (.int y)) ρ = .ok (.sh (.bool (decide (x ≤ y)))) ρ := (rfl)
theorem f_gt {x y : Int} : fI iGt (.sh (.int x)) (.sh (.int y)) ρ = .ok (.sh (.bool (decide (y < x)))) ρ := (rfl)
theorem f_ge {x y : Int} : fI iGe (.sh (.int x)) (.sh (.int y)) ρ = .ok (.sh (.bool (decide (y ≤ x)))) ρ := (rfl)
theorem f_eq {x y : Int} : fEq (.sh (.int x)) (.sh (.int y)) ρ = .ok (.sh (.bool (decide (x = y)))) ρ := (rfl)
theorem f_ne {x y : Int} : fNe (.sh (.int x)) (.sh (.int y)) ρ = .ok (.sh (.bool (!decide (x = y)))) ρ := (rfl)
theorem f_mul {x y : Int} : fMul (.sh (.int x)) (.sh (.int y)) ρ = fI iMul (.sh (.int x)) (.sh (.int y)) ρ := by
  simp only [fMul, fI, intE]
  all_goals (cases iMul x y <;> rfl)
theorem f_neg {x : Int} : fNeg (.sh (.int x)) ρ = .ok (.sh (.int (-x))) ρ := (rfl)
theorem f_mod {x y : Int} (h : 0 < y) : fI iMod (.sh (.int x)) (.sh (.int y)) ρ = .ok (.sh (.int (x % y))) ρ := fI_e (if_pos h)
theorem f_div {x y : Int} (h : 0 < y ∧ y.natAbs.log2 < 9000) : fI iDiv (.sh (.int x)) (.sh (.int y)) ρ = .ok (.sh (.int (x / y))) ρ := fI_e (if_pos h)
theorem f_pow {x y : Int} (h : 0 ≤ y ∧ y ≤ 1000000 ∧ x.natAbs < 2 ^ 64) : fI iPow (.sh (.int x)) (.sh (.int y)) ρ = .ok (.sh (.int (x ^ y.toNat))) ρ := fI_e (if_pos h)
theorem f_mull {x y : Int} (h : x.natAbs < 2 ^ 64) : fMul (.sh (.int x)) (.sh (.int y)) ρ = .ok (.sh (.int (x * y))) ρ := by
  rw [f_mul]
  exact fI_e (if_pos (Or.inl h))
theorem f_mulr {x y : Int} (h : y.natAbs < 2 ^ 64) : fMul (.sh (.int x)) (.sh (.int y)) ρ = .ok (.sh (.int (x * y))) ρ := by
  rw [f_mul]
  exact fI_e (if_pos (Or.inr (Or.inl h)))
theorem f_abs {x : Int} : f1 absO [.sh (.int x)] ρ = .ok (.sh (.int (if x < 0 then -x else x))) ρ := (rfl)
theorem f_len : f1 lenO [.ol os] ρ = .ok (.sh (.int (os.length : Nat))) ρ := (rfl)
theorem f_lensc : f1 lenO [.sc us] ρ = .ok (.sh (.int (us.length : Nat))) ρ := (rfl)
theorem f_lenl : f1 lenO [.sh (.list us)] ρ = .ok (.sh (.int (us.length : Nat))) ρ := (rfl)
theorem f_lent : f1 lenO [.sh (.tuple us)] ρ = .ok (.sh (.int (us.length : Nat))) ρ := (rfl)
theorem f_max2 {x y : Int} : f2i iMax [.sh (.int x), .sh (.int y)] ρ = .ok (.sh (.int (iMax x y))) ρ := (rfl)
theorem f_min2 {x y : Int} : f2i iMin [.sh (.int x), .sh (.int y)] ρ = .ok (.sh (.int (iMin x y))) ρ := (rfl)
theorem f_isi_ii {x : Int} : fIsi .int (.sh (.int x)) ρ = .ok (.sh (.bool true)) ρ := (rfl)
theorem f_isi_ib {x : Int} : fIsi .bl (.sh (.int x)) ρ = .ok (.sh (.bool false)) ρ := (rfl)
theorem tr_b : truO (.sh (.bool k)) = some k := (rfl)
theorem tr_i {x : Int} : truO (.sh (.int x)) = some (x != 0) := (rfl)
def idx1 (ρ : Ev) : Option U → R O
  | some u => .ok (.sh u) ρ
  | none => .bad
theorem idx_e {x : Int} : fIdx o (.sh (.int x)) ρ = idx1 ρ (atO o x) := by
  simp only [fIdx, intE]
  cases atO o x <;> rfl
theorem idx1_o {x : U} : idx1 ρ (some x) = .ok (.sh x) ρ := (rfl)
theorem at_l {x : Int} : atO (.sh (.list us)) x = at' us x := (rfl)
theorem at_t {x : Int} : atO (.sh (.tuple us)) x = at' us x := (rfl)
theorem at_ol {x : Int} : atO (.ol os) x = shE (at' os x) := (rfl)
theorem at_ot {x : Int} : atO (.ot os) x = shE (at' os x) := (rfl)
theorem at_sc {x : Int} : atO (.sc us) x = at' us x := (rfl)
theorem at_n {α : Type} {xs : List α} {n : Nat} : at' xs (n : Int) = xs[n]? := by
  unfold at'
  rw [if_pos (Int.natCast_nonneg n)]
  rfl
theorem at_0 {α : Type} {xs : List α} : at' xs 0 = xs[0]? := (rfl)
theorem at_1 {α : Type} {xs : List α} : at' xs 1 = xs[1]? := (rfl)
theorem at_2 {α : Type} {xs : List α} : at' xs 2 = xs[2]? := (rfl)
theorem at_3 {α : Type} {xs : List α} : at' xs 3 = xs[3]? := (rfl)
theorem at_4 {α : Type} {xs : List α} : at' xs 4 = xs[4]? := (rfl)
theorem at_5 {α : Type} {xs : List α} : at' xs 5 = xs[5]? := (rfl)
theorem shE_s {x : U} : shE (some (.sh x)) = some x := (rfl)
def mth4 (i : Nat) (ρ : Ev) : Option (O × List O) → R O
  | some (o, os) => .ok o (ρ.set i (some (.ol os)))
  | none => .bad
def mth3 (i : Nat) (f : List O → List O → Option (O × List O)) (ρ : Ev) : Option (List O) → Option (Option O) → R O
  | some xs, some (some (.ol os)) => mth4 i ρ (f os xs)
  | _, _ => .bad
def mth2 (i : Nat) (f : List O → List O → Option (O × List O)) : R (List Dn) → R O
  | .ok ds ρ => mth3 i f ρ (osOf ds) ρ[i]?
  | .exc c ρ => .exc c ρ
  | .bad => .bad
def mth1 (i : Nat) (f : List O → List O → Option (O × List O)) (as : List Ag) (ρ : Ev) : Option (Option O) → R O
  | some (some (.ol _)) => mth2 i f (evAs as ρ)
  | _ => .bad
theorem mth_e {f : List O → List O → Option (O × List O)} : mMth i f as ρ = mth1 i f as ρ ρ[i]? := by
  unfold mMth mth1
  rcases ρ[i]? with _ | _ | o <;> try rfl
  cases o <;> try rfl
  simp only
  rcases evAs as ρ with ⟨ds, ρ1⟩ | ⟨c, ρ1⟩ | _ <;> try rfl
  simp only [mth2]
  cases osOf ds with
  | none => simp only [mth3]
  | some xs =>
    simp only
    rcases ρ1[i]? with _ | _ | o <;> try rfl
    cases o <;> rfl
theorem mth1_o {f : List O → List O → Option (O × List O)} : mth1 i f as ρ (some (some (.ol os))) = mth2 i f (evAs as ρ) := (rfl)
theorem mth2_o {f : List O → List O → Option (O × List O)} : mth2 i f (.ok ds ρ) = mth3 i f ρ (osOf ds) ρ[i]? := (rfl)
theorem mth3_o {f : List O → List O → Option (O × List O)} : mth3 i f ρ (some xs) (some (some (.ol os))) = mth4 i ρ (f os xs) := (rfl)
theorem mth4_o : mth4 i ρ (some (o, os)) = .ok o (ρ.set i (some (.ol os))) := (rfl)
theorem app_e (h : os.length < 16777216) : fApp os [o] = some (.sh .none, os ++ [o]) := if_pos h
theorem clr_e : fClear os [] = some (.sh .none, []) := (rfl)
def six2 (i : Nat) (o : O) (ρ : Ev) : Option Int → Fl
  | some k => putIx i k o ρ
  | none => .bad
def six1 (i : Nat) (o : O) : R Dn → Fl
  | .ok d ρ => six2 i o ρ ((oOf ρ d).bind intE)
  | .exc cl r => .exc cl r
  | .bad => .bad
def six01 (i : Nat) (idx : Ag) (o : O) (ρ : Ev) : Option (Option O) → Fl
  | some (some (.ol _)) => six1 i o (evA idx ρ)
  | _ => .bad
def six0 (i : Nat) (idx : Ag) : R O → Fl
  | .ok o ρ => six01 i idx o ρ ρ[i]?
  | .exc cl r => .exc cl r
  | .bad => .bad
theorem six_e : sSetIx i a m ρ = six0 i a (m ρ) := by
  unfold sSetIx sE six0
  rcases m ρ with ⟨da, ρ1⟩ | ⟨c, ρ1⟩ | _ <;> try rfl
  simp only [olAt]
  rcases ρ1[i]? with _ | _ | o <;> try rfl
  cases o <;> try rfl
  simp only [six01]
  rcases evA a ρ1 with ⟨db, ρ2⟩ | ⟨c, ρ2⟩ | _ <;> try rfl
  simp only [six1]
  cases oOf ρ2 db with
  | none => rfl
  | some z =>
    simp only [Option.bind_some]
    cases intE z <;> rfl
theorem six0_o : six0 i a (.ok o ρ) = six01 i a o ρ ρ[i]? := (rfl)
theorem six01_o : six01 i a o ρ (some (some (.ol os))) = six1 i o (evA a ρ) := (rfl)
def pix2 (i : Nat) (o : O) (ρ : Ev) (os : List O) : Option Nat → Fl
  | some j => .nx (ρ.set i (some (.ol (os.set j o))))
  | none => .bad
def pix1 (i : Nat) (k : Int) (o : O) (ρ : Ev) : Option (Option O) → Fl
  | some (some (.ol os)) => pix2 i o ρ os (ixN os.length k)
  | _ => .bad
theorem pix_e {x : Int} : putIx i x o ρ = pix1 i x o ρ ρ[i]? := by
  unfold putIx pix1
  rcases ρ[i]? with _ | _ | o <;> try rfl
theorem ixN_l {n : Nat} {x : Int} (h0 : 0 ≤ x) (h1 : x < n) : ixN n x = some x.toNat := by
  unfold ixN
  rw [if_pos h0, if_pos h1]
theorem pix1_o {x : Int} : pix1 i x o ρ (some (some (.ol os))) = pix2 i o ρ os (ixN os.length x) := (rfl)
theorem pix2_o : pix2 i o ρ os (some j) = .nx (ρ.set i (some (.ol (os.set j o)))) := (rfl)
theorem six1_o : six1 i o (.ok da ρ) = six2 i o ρ ((oOf ρ da).bind intE) := (rfl)
theorem six2_o {x : Int} : six2 i o ρ (some x) = putIx i x o ρ := (rfl)
end
theorem lpF_nx {t : Tg} {body : MS} (P : Ev → Prop) : ∀ (us : List U), (∀ u ∈ us, ∀ ρ, P ρ → ∃ ρ1, bind t u ρ = some ρ1 ∧ ∃ ρ2, (body ρ1 = .nx ρ2 ∨ body ρ1 = .ct ρ2) ∧ P ρ2) → ∀ ρ, P ρ → ∃ ρ', lpF t body us ρ = .nx ρ' ∧ P ρ'
  | [], _, ρ, hp => ⟨ρ, rfl, hp⟩
  | u :: us, h, ρ, hp => by
    obtain ⟨ρ1, e1, ρ2, e2, p2⟩ := h u List.mem_cons_self ρ hp
    obtain ⟨ρ', e3, p3⟩ := lpF_nx P us (fun v hv => h v (List.mem_cons_of_mem _ hv)) ρ2 p2
    refine ⟨ρ', ?_, p3⟩
    unfold lpF
    rw [e1]
    rcases e2 with e2 | e2
    · simp only [e2]; exact e3
    · simp only [e2]; exact e3
theorem rngU_mem {n : Nat} {lo : Int} {u : U} (h : u ∈ rngU lo n) : ∃ k : Nat, k < n ∧ u = .int (lo + k) := by
  obtain ⟨k, hk, e⟩ := List.mem_iff_getElem.mp h
  have e2 := rngU_get n k lo u (by rw [List.getElem?_eq_getElem hk, e])
  rw [rngU_len] at hk
  exact ⟨k, hk, e2⟩
end MM
namespace MM
open PySem L2
def lkH : List (Str × Option MS) → Str → Option (Option MS)
  | [], _ => none
  | (x, h) :: r, y => if x = y then some h else lkH r y
def clrI (i : Nat) : Fl → Fl
  | .nx ρ => .nx (ρ.set i none)
  | .rt o ρ => .rt o ρ
  | .bk ρ => .bk (ρ.set i none)
  | .ct ρ => .ct (ρ.set i none)
  | .exc _ _ => .bad
  | .bad => .bad
def tryH (i : Nat) (cl : Str) (ρ : Ev) : Option (Option MS) → Fl
  | some (some h) => if i < ρ.length then clrI i (h (ρ.set i none)) else .bad
  | some none => .exc cl ρ
  | none => .bad
def sTry (i : Nat) (hs : List (Str × Option MS)) (m : MS) : MS := fun ρ => match m ρ with
  | .exc cl ρ1 => tryH i cl ρ1 (lkH hs cl)
  | r => r
section
variable {K : PySem.W.Frag} {c : Cc} {g : Str → Option Value} {W : WX} {ρ ρ' : Ev} {σ σ' : St} {F F' H H' : Hp} {E E' T T' S S1 S2 : Addr → Prop} {v : V} {o : O} {u : U} {D : Ends}
end
section
variable {X : Cx} {c : Cc} {W : WX} {body suite : List Stmt} {b₀ : Stmt} {x n : Str} {cv : Value} {i : Nat} {hs : List (Str × Option MS)} {m : MS} {pos pos' np : Pos}
end
section
variable {X : Cx} {c : Cc} {W : WX} {es : List Expr} {y cl e0 : Str} {a C : Addr} {oe : Obj} {pn : List (Addr × Obj)} {pos p p1 p2 p3 : Pos} {b b2 : Bool} {i k : Nat}
end
def hookM (n : Nat) (ps : List (PySem.W.Frag → Bool)) (fa : List He.Fa) (fn : List He.DefD) : PySem.W.Hook where
  α := He.AlD × Bool
  obs := fun s => (He.obsDG n fa fn s.heap.get?, ps.all fun p => p (He.frG s.heap.get? (He.asD s.heap.get? n)))
  val := fun _ => (He.valD fn, true)
  says := fun _ h => ∃ K : PySem.W.Frag, K.In h ∧ He.SaysD fa fn K ∧ (ps.all fun p => p K) = true
  of := fun _ _ e => ⟨_, He.frG_in, congrArg (fun z : He.AlD × Bool => z.1) e, congrArg (fun z : He.AlD × Bool => z.2) e⟩
  keeps := fun _ _ _ ⟨K, hK, c⟩ k => ⟨K, PySem.W.Frag.In.keeps hK k, c⟩
def obsM (n : Nat) (ps : List (PySem.W.Frag → Bool)) (fa : List He.Fa) (fn : List He.DefD) (g : Addr → Option Obj) : He.AlD × Bool := (He.obsDG n fa fn g, ps.all fun p => p (He.frG g (He.asD g n)))
theorem obsM_eq {n : Nat} {ps : List (PySem.W.Frag → Bool)} {fa : List He.Fa} {fn : List He.DefD} {g : Addr → Option Obj} {s : Shared} (h : ∀ a, g a = s.heap.get? a) : obsM n ps fa fn g = (hookM n ps fa fn).obs s := by
  have e : g = s.heap.get? := funext h
  rw [e] <;> rfl
section
variable {K : PySem.W.Frag} {mg : Str → Option Value} {h : Heap} {x y : Str} {b : Bool} {T : String}
end
section
variable {X : Cx} {c : Cc} {W : WX} {body suite ss : List Stmt} {b₀ : Stmt} {x n : Str} {i : Nat} {hs : List (Str × Option MS)} {m : MS} {h : MS} {pos pos' np : Pos}
end
def try1 (i : Nat) (hs : List (Str × Option MS)) : Fl → Fl
  | .exc cl ρ1 => tryH i cl ρ1 (lkH hs cl)
  | r => r
theorem try_e {i : Nat} {hs : List (Str × Option MS)} {m : MS} {ρ : Ev} : sTry i hs m ρ = try1 i hs (m ρ) := by
  unfold sTry try1
  cases m ρ <;> rfl
theorem try1_n {i : Nat} {hs : List (Str × Option MS)} {ρ : Ev} : try1 i hs (.nx ρ) = .nx ρ := (rfl)
theorem try1_r {i : Nat} {hs : List (Str × Option MS)} {ρ : Ev} {o : O} : try1 i hs (.rt o ρ) = .rt o ρ := (rfl)
theorem try1_x {i : Nat} {hs : List (Str × Option MS)} {ρ : Ev} {cl : Str} : try1 i hs (.exc cl ρ) = tryH i cl ρ (lkH hs cl) := (rfl)
theorem tryH_s {i : Nat} {h : MS} {ρ : Ev} {cl : Str} (hi : i < ρ.length) : tryH i cl ρ (some (some h)) = clrI i (h (ρ.set i none)) := if_pos hi
theorem clr_r {i : Nat} {ρ : Ev} {o : O} : clrI i (.rt o ρ) = .rt o ρ := (rfl)
theorem clr_n {i : Nat} {ρ : Ev} : clrI i (.nx ρ) = .nx (ρ.set i none) := (rfl)
end MM
namespace MM
open PySem L2
end MM
namespace MM
open PySem L2
def vw1 : Option O → Option O
  | some (.sc us) => some (.sc us)
  | some (.nf l) => some (.nf l)
  | some (.fi k us) => some (.fi k us)
  | some o => match viewO o with
    | some u => some (.sh u)
    | none => none
  | none => none
def vwE (ρ : Ev) : Ev := ρ.map vw1
mutual
def plainU : U → Bool
  | .none => true
  | .bool _ => true
  | .int _ => true
  | .str _ => true
  | _ => false
end
mutual
def plainO : O → Bool
  | .sh u => plainU u
  | .ol os => plainOs os
  | .ot os => plainOs os
  | .od _ => false
  | .nd _ => false
  | .nf _ => false
  | .ins _ _ => false
  | .fi _ _ => false
  | .dl _ _ => false
  | .df _ => false
  | .sc _ => false
def plainOs : List O → Bool
  | [] => true
  | o :: os => plainO o && plainOs os
end
section
variable {K : PySem.W.Frag} {c : Cc} {g : Str → Option Value} {W : WX} {ρ ρ' : Ev} {σ σ' : St} {F F' H H' : Hp} {E E' T T' S S1 S2 : Addr → Prop} {v : V} {o : O} {u : U} {Q : VK}
mutual
theorem RpO.plain {F1 H1 : Hp} : ∀ {v : V} {o : O} {S : Addr → Prop}, RpO K F H v o S → plainO o = true → RpO K F1 H v o S
  | _, _, _, .sh d, e => by
    cases d with
    | non => exact .sh .non
    | bl b => exact .sh (.bl b)
    | int i => exact .sh (.int i)
    | str x => exact .sh (.str x)
    | lst _ _ => cases e
    | tup _ _ => cases e
  | _, _, _, .ol h1 h2 r h3 h4, e => .ol h1 h2 (RpOs.plain (F1 := F1) (H1 := H1) r e) h3 h4
  | _, _, _, .ot h1 h2 r h3 h4, e => .ot h1 h2 (RpOs.plain (F1 := F1) (H1 := H1) r e) h3 h4
  | _, _, _, .sc _ _, e => by cases e
  | _, _, _, .od _ _, e => by cases e
  | _, _, _, .nd _ _ _ _, e => by cases e
  | _, _, _, .nf _ _ _ _, e => by cases e
  | _, _, _, .ins _ _ _ _ _ _, e => by cases e
  | _, _, _, .fi _ _ _, e => by cases e
  | _, _, _, .dl _ _ _ _ _ _, e => by cases e
  | _, _, _, .df _, e => by cases e
theorem RpOs.plain {F1 H1 : Hp} : ∀ {vs : List V} {os : List O} {S : Addr → Prop}, RpOs K F H vs os S → plainOs os = true → RpOs K F1 H vs os S
  | _, _, _, .nil, _ => .nil
  | _, _, _, .cons r rs h1 h2 d, e => by
    obtain ⟨e1, e2⟩ := Bool.and_eq_true_iff.mp (show (plainO _ && plainOs _) = true from e)
    exact .cons (RpO.plain (F1 := F1) (H1 := H1) r e1) (RpOs.plain (F1 := F1) (H1 := H1) rs e2) h1 h2 d
end
def borO (ρ : Ev) : R O → R O
  | .ok o _ => if plainO o = true then .ok o ρ else .bad
  | .exc cl _ => .exc cl ρ
  | .bad => .bad
def mBor (m : ME) : ME := fun ρ => borO ρ (m (vwE ρ))
def borB (ρ : Ev) : R Bool → R Bool
  | .ok k _ => .ok k ρ
  | .exc cl _ => .exc cl ρ
  | .bad => .bad
def tBor (m : Ev → R Bool) : Ev → R Bool := fun ρ => borB ρ (m (vwE ρ))
def frzO : R O → R O
  | .ok o ρ => match viewO o with
    | some u => .ok (.sh u) ρ
    | none => .bad
  | .exc cl ρ => .exc cl ρ
  | .bad => .bad
def mFrz (m : ME) : ME := fun ρ => frzO (m ρ)
theorem conv_frz {m : ME} (σ : St) (H : Hp) (Q : VK) (h : tM K c g W (mFrz m) σ H Q) : tM K c g W m σ H Q := by
  obtain ⟨ρ, F, E, T, M, h⟩ := h
  refine ⟨ρ, F, E, T, M, ?_⟩
  unfold mFrz at h
  cases e : m ρ with
  | bad => rw [e] at h; exact h
  | exc cl ρ1 => rw [e] at h; exact h
  | ok o ρ1 =>
    rw [e] at h
    intro v F1 H1 E1 S1 f1 k1 M1 d1 r1
    simp only [frzO] at h
    cases e2 : viewO o with
    | none => rw [e2] at h; exact h.elim
    | some u =>
      rw [e2] at h
      obtain ⟨F2, f2, M2, dq⟩ := M1.freeze d1 r1 e2
      exact h v F2 H1 E1 Em (f1.trans f2) k1 M2.em (fun _ _ x => x) (.sh dq)
end
section
variable {X : Cx} {c : Cc} {W : WX} {e : Expr} {m : ME} {t : Ev → R Bool}
theorem x_frz (h : PM X c W e m) : PM X c W e (mFrz m) := pe_conv h fun σ H Q q => conv_frz σ H Q q
end
section
variable {K : PySem.W.Frag} {c : Cc} {g : Str → Option Value} {W : WX} {ρ ρ' : Ev} {σ σ' : St} {F F' H H' : Hp} {E E' T T' S S1 S2 : Addr → Prop} {v : V} {o : O} {u : U} {Q : VK}
theorem RpOs.upd : ∀ {vs : List V} {os : List O} {S : Addr → Prop} {j : Nat} {o : O}, RpOs K F H vs os S → os[j]? = some o → ∃ v Se, vs[j]? = some v ∧ RpO K F H v o Se ∧ (∀ a, Se a → S a) ∧
    ∀ (F' H' : Hp) (o' : O) (Se' : Addr → Prop), Same F F' → (∀ a, S a → ¬ Se a → H' a = H a) → RpO K F' H' v o' Se' → (∀ a, Se' a → S a → Se a) → RpOs K F' H' vs (os.set j o') (fun a => (S a ∧ ¬ Se a) ∨ Se' a)
  | _, _, _, _, _, .nil, e => by cases e
  | _, _, S, 0, _, .cons (S1 := S1) (S2 := S2) r rs h1 h2 d, e => by
    cases e
    refine ⟨_, S1, rfl, r, h1, fun F' H' o' Se' f k r' n => ?_⟩
    have fr := rs.frame f fun a x => k a (h2 a x) fun y => d a y x
    exact .cons (S1 := Se') (S2 := S2) r' fr (fun a x => .inr x) (fun a x => .inl ⟨h2 a x, fun y => d a y x⟩) fun a x y => d a (n a x (h2 a y)) y
  | _, _, S, j + 1, _, .cons (S1 := S1) (S2 := S2) r rs h1 h2 d, e => by
    obtain ⟨v, Se, a1, a2, a3, a4⟩ := RpOs.upd (j := j) rs e
    refine ⟨v, Se, a1, a2, fun a x => h2 a (a3 a x), fun F' H' o' Se' f k r' n => ?_⟩
    have fr := r.frame f fun a x => k a (h1 a x) fun y => d a x (a3 a y)
    have rr := a4 F' H' o' Se' f (fun a x y => k a (h2 a x) y) r' fun a x y => n a x (h2 a y)
    refine .cons (S1 := S1) (S2 := fun a => (S2 a ∧ ¬ Se a) ∨ Se' a) fr rr (fun a x => .inl ⟨h1 a x, fun y => d a x (a3 a y)⟩) (fun a x => x.imp (fun z => ⟨h2 a z.1, z.2⟩) id) fun a x y => ?_
    rcases y with y | y
    · exact d a x y.1
    · exact d a x (a3 a (n a y (h1 a x)))
inductive Mk : (List O → O) → Prop
  | ol : Mk .ol
  | ot : Mk .ot
def pm4 (i : Nat) (mk : List O → O) (os : List O) (j : Nat) (ρ : Ev) : Option (O × List O) → R O
  | some (o, xs) => .ok o (ρ.set i (some (mk (os.set j (.ol xs)))))
  | none => .bad
def pm3 (i : Nat) (mk : List O → O) (f : List O → List O → Option (O × List O)) (os : List O) (j : Nat) (xs : List O) : R (List Dn) → R O
  | .ok ds ρ => pm4 i mk os j ρ ((osOf ds).bind (f xs))
  | .exc cl r => .exc cl r
  | .bad => .bad
def pm2 (i : Nat) (mk : List O → O) (f : List O → List O → Option (O × List O)) (as : List Ag) (ρ : Ev) (os : List O) (j : Nat) : Option O → R O
  | some (.ol xs) => pm3 i mk f os j xs (evAs as (ρ.set i none))
  | _ => .bad
def pm1 (i : Nat) (mk : List O → O) (f : List O → List O → Option (O × List O)) (as : List Ag) (ρ : Ev) (os : List O) : Option Nat → R O
  | some j => pm2 i mk f as ρ os j os[j]?
  | none => .bad
def pm0 (i : Nat) (f : List O → List O → Option (O × List O)) (as : List Ag) (ρ : Ev) : Option Int → Option (Option O) → R O
  | some k, some (some (.ol os)) => pm1 i .ol f as ρ os (ixN os.length k)
  | some k, some (some (.ot os)) => pm1 i .ot f as ρ os (ixN os.length k)
  | _, _ => .bad
def pmA (i : Nat) (f : List O → List O → Option (O × List O)) (as : List Ag) : R Dn → R O
  | .ok d ρ => pm0 i f as ρ ((oOf ρ d).bind intE) ρ[i]?
  | .exc cl r => .exc cl r
  | .bad => .bad
def pmB (i : Nat) (ix : Ag) (f : List O → List O → Option (O × List O)) (as : List Ag) (ρ : Ev) : Option (Option O) → R O
  | some (some (.ol _)) => pmA i f as (evA ix ρ)
  | some (some (.ot _)) => pmA i f as (evA ix ρ)
  | _ => .bad
def mMthP (i : Nat) (ix : Ag) (f : List O → List O → Option (O × List O)) (as : List Ag) : ME := fun ρ => pmB i ix f as ρ ρ[i]?
theorem ixN_at {α : Type} {xs : List α} {n j : Nat} {k : Int} {x : α} (e : ixN n k = some j) (hl : xs.length = n) (h : xs[j]? = some x) : atI xs k = some x := by
  unfold atI
  rw [hl, e]
  exact h
end
section
variable {X : Cx} {c : Cc} {W : WX} {e1 e2 e3 : Expr} {es : List Expr} {a : Ag} {as : List Ag} {pos p apos : Pos}
end
section
variable {ρ : Ev} {i j : Nat} {o : O} {os xs : List O} {ds : List Dn} {d : Dn} {ix : Ag} {as : List Ag} {m : ME} {t : Ev → R Bool} {u : U} {us : List U} {k : Int} {b : Bool} {cl : Str} {mk : List O → O} {f : List O → List O → Option (O × List O)}
theorem mp_e : mMthP i ix f as ρ = pmB i ix f as ρ ρ[i]? := (rfl)
theorem pmB_l : pmB i ix f as ρ (some (some (.ol os))) = pmA i f as (evA ix ρ) := (rfl)
theorem pmB_t : pmB i ix f as ρ (some (some (.ot os))) = pmA i f as (evA ix ρ) := (rfl)
theorem pmA_o : pmA i f as (.ok d ρ) = pm0 i f as ρ ((oOf ρ d).bind intE) ρ[i]? := (rfl)
theorem pm0_l : pm0 i f as ρ (some k) (some (some (.ol os))) = pm1 i .ol f as ρ os (ixN os.length k) := (rfl)
theorem pm0_t : pm0 i f as ρ (some k) (some (some (.ot os))) = pm1 i .ot f as ρ os (ixN os.length k) := (rfl)
theorem pm1_o : pm1 i mk f as ρ os (some j) = pm2 i mk f as ρ os j os[j]? := (rfl)
theorem pm2_o : pm2 i mk f as ρ os j (some (.ol xs)) = pm3 i mk f os j xs (evAs as (ρ.set i none)) := (rfl)
theorem pm3_o : pm3 i mk f os j xs (.ok ds ρ) = pm4 i mk os j ρ ((osOf ds).bind (f xs)) := (rfl)
theorem pm4_o : pm4 i mk os j ρ (some (o, xs)) = .ok o (ρ.set i (some (mk (os.set j (.ol xs))))) := (rfl)
theorem bor_e : mBor m ρ = borO ρ (m (vwE ρ)) := (rfl)
theorem borT_e : tBor t ρ = borB ρ (t (vwE ρ)) := (rfl)
theorem borO_o {ρ1 : Ev} (h : plainO o = true) : borO ρ (.ok o ρ1) = .ok o ρ := if_pos h
theorem borB_o {ρ1 : Ev} : borB ρ (.ok b ρ1) = .ok b ρ := (rfl)
theorem borO_x {ρ1 : Ev} : borO ρ (.exc cl ρ1) = .exc cl ρ := (rfl)
theorem borB_x {ρ1 : Ev} : borB ρ (.exc cl ρ1) = .exc cl ρ := (rfl)
theorem vwE_n : vwE [] = [] := (rfl)
theorem vwE_c {x : Option O} : vwE (x :: ρ) = vw1 x :: vwE ρ := (rfl)
theorem vw1_n : vw1 none = none := (rfl)
theorem vw1_s : vw1 (some (.sh u)) = some (.sh u) := (rfl)
theorem vw1_sc : vw1 (some (.sc us)) = some (.sc us) := (rfl)
theorem vw1_ol : vw1 (some (.ol os)) = (viewO (.ol os)).map .sh := by
  simp only [vw1]
  cases viewO (.ol os) <;> rfl
theorem vw1_ot : vw1 (some (.ot os)) = (viewO (.ot os)).map .sh := by
  simp only [vw1]
  cases viewO (.ot os) <;> rfl
theorem vO_s : viewO (.sh u) = some u := (rfl)
theorem vO_l : viewO (.ol os) = (viewOs os).map .list := by
  rw [viewO]
  cases viewOs os <;> rfl
theorem vO_t : viewO (.ot os) = (viewOs os).map .tuple := by
  rw [viewO]
  cases viewOs os <;> rfl
theorem vOs_n : viewOs [] = some [] := (rfl)
def vcons : Option U → Option (List U) → Option (List U)
  | some u, some us => some (u :: us)
  | _, _ => none
theorem vOs_c : viewOs (o :: os) = vcons (viewO o) (viewOs os) := by
  rw [viewOs]
  cases viewO o <;> cases viewOs os <;> rfl
theorem vcons_o : vcons (some u) (some us) = some (u :: us) := (rfl)
theorem frz_e : mFrz m ρ = frzO (m ρ) := (rfl)
def frz2 (ρ : Ev) : Option U → R O
  | some u => .ok (.sh u) ρ
  | none => .bad
theorem frzO_o : frzO (.ok o ρ) = frz2 ρ (viewO o) := by
  simp only [frzO]
  cases viewO o <;> rfl
theorem frz2_o : frz2 ρ (some u) = .ok (.sh u) ρ := (rfl)
theorem frzO_x : frzO (.exc cl ρ) = .exc cl ρ := (rfl)
end
end MM
namespace MM
open PySem L2
def insU {α : Type} (le : α → α → Bool) (a : α) : List α → List α
  | [] => [a]
  | b :: bs => if le a b = true then a :: b :: bs else b :: insU le a bs
def isortU {α : Type} (le : α → α → Bool) : List α → List α
  | [] => []
  | a :: l => insU le a (isortU le l)
theorem ins_app {α : Type} {le : α → α → Bool} {a : α} : ∀ (l1 l2 : List α), (∀ b ∈ l1, le a b = false) → (∀ b ∈ l2, le a b = true) → insU le a (l1 ++ l2) = l1 ++ a :: l2
  | [], [], _, _ => rfl
  | [], b :: l2, _, h => by
    show (if le a b = true then a :: b :: l2 else _) = _
    rw [if_pos (h b List.mem_cons_self)]
    rfl
  | b :: l1, l2, h, h2 => by
    show (if le a b = true then _ else b :: insU le a (l1 ++ l2)) = _
    rw [if_neg (by rw [h b List.mem_cons_self]; exact Bool.false_ne_true), ins_app l1 l2 (fun c hc => h c (List.mem_cons_of_mem _ hc)) h2]
    rfl
theorem isort_eq {α : Type} {le : α → α → Bool} (tr : ∀ a b c, le a b = true → le b c = true → le a c = true) (tt : ∀ a b, (le a b || le b a) = true) : ∀ l : List α, l.mergeSort le = isortU le l
  | [] => by simp [isortU]
  | a :: l => by
    obtain ⟨l1, l2, h1, h2, h3⟩ := List.mergeSort_cons (le := le) tr tt a l
    have s := List.pairwise_mergeSort (le := le) tr tt (a :: l)
    rw [h1] at s
    show _ = insU le a (isortU le l)
    rw [← isort_eq tr tt l, h2, h1]
    refine (ins_app l1 l2 (fun b hb => ?_) fun b hb => ?_).symm
    · have := h3 b hb
      cases q : le a b with
      | false => rfl
      | true => rw [q] at this; cases this
    · have := (List.pairwise_append.mp s).2.1
      exact (List.pairwise_cons.mp this).1 b hb
inductive Sh where
  | int
  | str
  | lst (s : Sh)
  | tup (s : Sh)
mutual
def has : Sh → U → Bool
  | .int, .int _ => true
  | .str, .str _ => true
  | .lst s, .list us => hasAll s us
  | .tup s, .tuple (u :: us) => has s u && hasAll s us
  | _, _ => false
def hasAll : Sh → List U → Bool
  | _, [] => true
  | s, u :: us => has s u && hasAll s us
end
mutual
theorem has_alike : ∀ (s : Sh) (d e : U), has s d = true → has s e = true → PySem.W.alike d e = true
  | .int, .int _, .int _, _, _ => rfl
  | .str, .str _, .str _, _, _ => rfl
  | .lst s, .list us, .list ws, h, h2 => by
    show PySem.W.alikeAll us ws = true
    exact hasAll_alike s us ws h h2
  | .tup s, .tuple (u :: us), .tuple (w :: ws), h, h2 => by
    obtain ⟨a1, a2⟩ := Bool.and_eq_true_iff.mp (show (has s u && hasAll s us) = true from h)
    obtain ⟨b1, b2⟩ := Bool.and_eq_true_iff.mp (show (has s w && hasAll s ws) = true from h2)
    show (PySem.W.alike u w && PySem.W.alikeAll us ws) = true
    rw [has_alike s u w a1 b1, hasAll_alike s us ws a2 b2]
    rfl
theorem hasAll_alike : ∀ (s : Sh) (ds es : List U), hasAll s ds = true → hasAll s es = true → PySem.W.alikeAll ds es = true
  | _, [], _, _, _ => by rw [PySem.W.alikeAll]
  | _, _ :: _, [], _, _ => by rw [PySem.W.alikeAll]
  | s, d :: ds, e :: es, h, h2 => by
    obtain ⟨a1, a2⟩ := Bool.and_eq_true_iff.mp (show (has s d && hasAll s ds) = true from h)
    obtain ⟨b1, b2⟩ := Bool.and_eq_true_iff.mp (show (has s e && hasAll s es) = true from h2)
    show (PySem.W.alike d e && PySem.W.alikeAll ds es) = true
    rw [has_alike s d e a1 b1, hasAll_alike s ds es a2 b2]
    rfl
end
theorem hasAll_mem : ∀ {s : Sh} {ds : List U}, hasAll s ds = true → ∀ d ∈ ds, has s d = true
  | _, [], _, _, h => by cases h
  | s, d :: ds, h, e, he => by
    obtain ⟨a1, a2⟩ := Bool.and_eq_true_iff.mp (show (has s d && hasAll s ds) = true from h)
    rcases List.mem_cons.mp he with z | z
    · subst z; exact a1
    · exact hasAll_mem a2 e z
theorem has_sortable {s : Sh} {ds : List U} (h : hasAll s ds = true) : PySem.W.Sortable ds := by
  have h := hasAll_mem h
  cases s with
  | tup s =>
    refine .inl fun d hd => ?_
    have z := h d hd
    match d, z with
    | .tuple (u :: us), _ => exact ⟨u, us, rfl⟩
  | int =>
    refine .inr fun d hd => ?_
    have z := h d hd
    match d, z with
    | .int _, _ => exact ⟨nofun, nofun⟩
  | str =>
    refine .inr fun d hd => ?_
    have z := h d hd
    match d, z with
    | .str _, _ => exact ⟨nofun, nofun⟩
  | lst s =>
    refine .inr fun d hd => ?_
    have z := h d hd
    match d, z with
    | .list _, _ => exact ⟨nofun, nofun⟩
def shapes : List Sh := [.int, .tup .int, .lst (.tup .int), .lst .int, .str, .lst (.lst (.tup .int)), .tup (.tup .int), .lst (.tup (.tup .int)), .tup (.lst (.tup .int)), .lst (.lst .int), .tup (.lst .int)]
def lowAll : List U → Bool
  | [] => true
  | u :: us => decide (u.depth ≤ 60) && lowAll us
theorem low_mem : ∀ {ds : List U}, lowAll ds = true → ∀ d ∈ ds, d.depth ≤ 60
  | [], _, _, h => by cases h
  | d :: ds, h, e, he => by
    obtain ⟨a1, a2⟩ := Bool.and_eq_true_iff.mp (show (decide (d.depth ≤ 60) && lowAll ds) = true from h)
    rcases List.mem_cons.mp he with z | z
    · subst z; exact of_decide_eq_true a1
    · exact low_mem a2 e z
def okSort (us : List U) : Bool := (shapes.any fun s => hasAll s us) && (lowAll us && decide (us.length ≤ 16777216))
def leU (a b : U) : Bool := !PySem.W.dataLt b a
def rSortD (K : PySem.W.Frag) : List V → Hp → VK → Prop := fun vs H Q => ∃ (a : Addr) (xs : List V) (ds : List U), vs = [.ref a] ∧ SqL K H a xs ∧ DqAll K H xs ds ∧ okSort ds = true ∧
  ∀ (l : List (V × U)) (p : Addr), (∀ b ∈ l, b ∈ xs.zip ds) → l.map (·.2) = isortU leU ds → H p = none → Q (.ref p) (upd H p (.lst (l.map (·.1))))
theorem dqz : ∀ {K : PySem.W.Frag} {H : Hp} {xs : List V} {ds : List U}, DqAll K H xs ds → (xs.zip ds).map (·.2) = ds ∧ (∀ p ∈ xs.zip ds, Dq K H p.1 p.2)
  | _, _, _, _, .nil => ⟨rfl, fun _ h => by cases h⟩
  | _, _, _, _, .cons h t => by
    obtain ⟨h1, h2⟩ := dqz t
    refine ⟨by rw [List.zip_cons_cons, List.map_cons, h1], fun p hp => ?_⟩
    rw [List.zip_cons_cons] at hp
    rcases List.mem_cons.mp hp with e | e
    · subst e; exact h
    · exact h2 p e
theorem dqu : ∀ {K : PySem.W.Frag} {H : Hp} (l : List (V × U)), (∀ p ∈ l, Dq K H p.1 p.2) → DqAll K H (l.map (·.1)) (l.map (·.2))
  | _, _, [], _ => .nil
  | _, _, p :: l, h => .cons (h p List.mem_cons_self) (dqu l fun q hq => h q (List.mem_cons_of_mem _ hq))
theorem each_z : ∀ {K : PySem.W.Frag} {H : Hp} {xs : List V} {ds : List U} {us : List Value}, DqAll K H xs ds → Vals xs us → PySem.W.EachIs (fun v (b : V × U) => RelV b.1 v) us (xs.zip ds)
  | _, _, _, _, _, .nil, .nil => .nil
  | _, _, _, _, _, .cons _ t, .cons r rs => .cons r (each_z t rs)
theorem vals_z : ∀ {out : List Value} {l : List (V × U)}, PySem.W.EachIs (fun v (b : V × U) => RelV b.1 v) out l → Vals (l.map (·.1)) out
  | _, _, .nil => .nil
  | _, _, .cons r t => .cons r (vals_z t)
theorem each_r {X : Cx} {pins : List (Addr × Obj)} {s : Shared} {σ : St} {H : Hp} (I : Inv X pins σ H s) : ∀ {xs : List V} {ds : List U} {us : List Value}, DqAll X.K H xs ds → Vals xs us → PySem.W.EachIs (fun v (b : V × U) => ∃ as, Reads s.heap v b.2 as) us (xs.zip ds)
  | _, _, _, .nil, .nil => .nil
  | _, _, _, .cons h t, .cons r rs => .cons (Dp.reads I _ _ _ (Dq.dp _ _ h) r) (each_r I t rs)
theorem cr_sortD {X : Cx} (hu : X.A.units + 64 < cLine) : CallR X (.builtin "sorted") (rSortD X.K) := by
  intro pins s σ H vs us Q I r h
  obtain ⟨a, xs, ds, rfl, hs, dq, ok, q⟩ := h
  obtain ⟨o1, o2⟩ := Bool.and_eq_true_iff.mp ok
  obtain ⟨o3, o4⟩ := Bool.and_eq_true_iff.mp o2
  obtain ⟨sh, _, hsh⟩ := List.any_eq_true.mp o1
  have hm := hasAll_mem hsh
  obtain ⟨its, rv, hl, hz⟩ := I.list hs
  rw [Vals.ref1 r]
  obtain ⟨z1, z2⟩ := dqz dq
  have hlen : (xs.zip ds).length = ds.length := by rw [List.length_zip, dq.len, Nat.min_self]
  refine PySem.W.sorted_data (vs := its) (bs := xs.zip ds) (enc := fun b : V × U => b.2) (R := fun v (b : V × U) => RelV b.1 v) hl.isList (each_z dq rv) (each_r I dq rv) (by rw [z1]; exact fun d hd e he => has_alike sh d e (hm d hd) (hm e he)) (by rw [z1]; exact has_sortable hsh) (by rw [hlen, line_eq]; exact of_decide_eq_true o4) (fun b hb => ?_) fun out h1 h2 => ?_
  · have : b.2 ∈ ds := by rw [← z1]; exact List.mem_map_of_mem hb
    have := low_mem o3 _ this
    omega
  · obtain ⟨ep, he'⟩ := PyProof.Rows.sortedAll_at s.heap its out.toArray
    have e1 : ((xs.zip ds).mergeSort (PySem.W.dataLe false fun b : V × U => b.2)).map (·.2) = isortU leU ds := by
      have tl := PySem.W.sortLe_total (PyProof.Rows.listOrd PyProof.Rows.itemOrd) false fun d : U => PySem.W.keyToks d
      have t2 := isort_eq (le := leU) tl.trans (fun a b => by
        rcases tl.total a b with h | h
        · rw [show leU a b = true from h]; rfl
        · rw [show leU b a = true from h, Bool.or_true]) ds
      rw [← t2]
      exact (List.map_mergeSort (r := PySem.W.dataLe false fun b : V × U => b.2) (s := leU) (f := fun b : V × U => b.2) (fun _ _ _ _ => rfl)).trans (by rw [z1])
    refine ⟨.ref _, upd H (s.heap.objs.size + 1) (.lst _), I.laid (t' := s.toks) (fun _ _ => PyProof.Rows.sortedAll_old) (Nat.le_succ _) ⟨?_, out, ep, vals_z h2, he'⟩, rfl, q _ _ (fun b hb => List.mem_mergeSort.mp hb) e1 (I.hok.fresh (Nat.le_succ _))⟩
    rw [List.length_map, List.length_mergeSort, hlen, line_eq]
    exact of_decide_eq_true o4
section
variable {K : PySem.W.Frag} {c : Cc} {g : Str → Option Value} {W : WX} {F H : Hp} {E T : Addr → Prop}
def fSort : List O → Ev → R O
  | [o], ρ => match lstE o with
    | some us => if okSort us = true then .ok (.ol (shs (isortU leU us))) ρ else .bad
    | none => .bad
  | _, _ => .bad
theorem sv_sort : ServesL K c g W (rSortD K) fSort := by
  intro ρ σ F H E T xs os Q M b h
  match os, b, h with
  | [o], b, h =>
    obtain ⟨v, S, rfl, r⟩ := bor1 b
    simp only [fSort] at h
    cases e : lstE o with
    | none => rw [e] at h; exact h.elim
    | some us =>
      rw [e] at h
      simp only at h
      split at h
      · rename_i ok
        obtain ⟨p, vs, rfl, hr, dq⟩ := lstE_ok M.ff r e
        refine ⟨p, vs, us, rfl, .inl hr, Dq.monoAll M.ff _ _ dq, ok, fun l q hl e1 hq => ?_⟩
        have dqs := dqu (K := K) (H := F) l fun p hp => (dqz dq).2 p (hl p hp)
        rw [e1] at dqs
        exact got_list h M hq dqs
      · exact h.elim
  | [], _, h => exact h.elim
  | _ :: _ :: _, _, h => exact h.elim
end
end MM
namespace MMR
open PySem PySem.Spec PyProof.Rows L2 RT
section
variable {prog : Program} {w : World} {A : Around} {E : Value → Shared → Prop} {s : Shared}
end
def tLstRev (K : PySem.W.Frag) (te : TE) : TE := fun σ H Q => te σ H fun v H1 => ∃ (a : Addr) (xs : List V), v = .ref a ∧ SqL K H1 a xs ∧ ∀ q, H1 q = none → Q (.ref q) (upd H1 q (.lst xs.reverse))
end MMR
namespace MM
open PySem L2
section
variable {K : PySem.W.Frag} {c : Cc} {g : Str → Option Value} {W : WX} {ρ ρ' : Ev} {σ σ' : St} {F F' H H' : Hp} {E E' T T' S S1 S2 : Addr → Prop} {v : V} {o : O} {u : U} {Q : VK} {D : Ends}
def revO : List O → Ev → R O
  | [o], ρ => match lstE o with
    | some us => .ok (.ol (shs us.reverse)) ρ
    | none => .bad
  | _, _ => .bad
theorem DqAll.rev : ∀ {vs : List V} {us : List U}, DqAll K F vs us → DqAll K F vs.reverse us.reverse
  | _, _, .nil => .nil
  | _, _, .cons h t => by rw [List.reverse_cons, List.reverse_cons]; exact (DqAll.rev t).append (.cons h .nil)
theorem conv_rev {a : Ag} (σ : St) (H : Hp) (Q : VK) (h : tM K c g W (mCB revO [a]) σ H Q) : MMR.tLstRev K (tAg K c g W a) σ H Q := by
  obtain ⟨ρ, F, E, T, M, h⟩ := h
  unfold mCB at h
  refine run_ag M ?_
  simp only [evAs] at h
  cases e1 : evA a ρ with
  | exc cl ρ1 => rw [e1] at h; exact h
  | bad => rw [e1] at h; exact h
  | ok d ρ1 =>
    rw [e1] at h
    simp only [osAt] at h
    intro x F1 H1 E1 S1 f1 k1 M1 d1 r1
    cases e2 : oOf ρ1 d with
    | none => rw [e2] at h; exact h.elim
    | some o =>
      rw [e2] at h
      simp only [revO] at h
      cases e3 : lstE o with
      | none => rw [e3] at h; exact h.elim
      | some us =>
        rw [e3] at h
        obtain ⟨S, r, hS⟩ := r1.rp M1 (fun a x => .inr x) e2
        obtain ⟨p, vs, rfl, hr, dq⟩ := lstE_ok M1.ff r e3
        refine ⟨p, vs, rfl, .inl hr, fun q hq => ?_⟩
        have h : Got K c g W (relO K) σ F1 H1 T Q (.ok (.ol (shs us.reverse)) ρ1) := h.weak f1 k1 (fun a x => x) relO_mono
        exact got_list h (M1.less fun a x => .inl x) hq dq.rev
theorem alike_ints (ns : List Int) : PySem.W.AlikeAll (ns.map PyData.int) := ⟨fun x hx y hy => by
  obtain ⟨i, _, rfl⟩ := List.mem_map.mp hx
  obtain ⟨j, _, rfl⟩ := List.mem_map.mp hy
  rfl, fun x hx => by
  obtain ⟨i, _, rfl⟩ := List.mem_map.mp hx
  nofun⟩
def maxDf (d : Int) : List Int → Int
  | [] => d
  | n :: r => maxI n r
def fMaxD (a b : O) (ρ : Ev) : R O := match lstE a with
  | some us => match intsU us with
    | some is => match intE b with
      | some d => .ok (.sh (.int (maxDf d is))) ρ
      | none => .bad
    | none => .bad
  | none => .bad
def sPar3 (i j l : Nat) (as : List Ag) : MS := fun ρ => match evAs as ρ with
  | .ok ds ρ1 => match osOf ds with
    | some [x, y, z] => .nx (((ρ1.set i (some x)).set j (some y)).set l (some z))
    | _ => .bad
  | .exc cl r => .exc cl r
  | .bad => .bad
end
section
variable {X : Cx} {c : Cc} {W : WX} {e e1 e2 e3 : Expr} {es : List Expr} {a b : Ag} {as : List Ag} {pos p p2 pos2 apos kpos : Pos} {x y z : Str} {i j l : Nat}
end
section
variable {ρ : Ev} {i j l : Nat} {os : List O} {us : List U} {ds : List Dn} {as : List Ag}
def par31 (i j l : Nat) (ρ : Ev) : Option (List O) → Fl
  | some [x, y, z] => .nx (((ρ.set i (some x)).set j (some y)).set l (some z))
  | _ => .bad
def par30 (i j l : Nat) : R (List Dn) → Fl
  | .ok ds ρ => par31 i j l ρ (osOf ds)
  | .exc cl r => .exc cl r
  | .bad => .bad
theorem par3_e : sPar3 i j l as ρ = par30 i j l (evAs as ρ) := by
  unfold sPar3 par30
  rcases evAs as ρ with ⟨ds, ρ1⟩ | ⟨c, ρ1⟩ | _ <;> try rfl
theorem par30_o : par30 i j l (.ok ds ρ) = par31 i j l ρ (osOf ds) := (rfl)
theorem par31_o {x y z : O} : par31 i j l ρ (some [x, y, z]) = .nx (((ρ.set i (some x)).set j (some y)).set l (some z)) := (rfl)
end
end MM
namespace MM
open PySem L2
section
variable {X : Cx} {c : Cc} {W : WX} {elt tg iter e : Expr} {ifs : List Expr} {scope : Scope} {own : List (Str × Nat)} {on : List Nat} {pos spos py : Pos} {t : Tg} {src : Ev → R (List U)} {test : Ev → R Bool} {m : ME} {y : Str} {i : Nat}
theorem x_lcN (ho : own.map (·.2) = on) (hc : X.calm = true) (hN : X.N.Nodup) (hi : PIM X c W tg iter src) (ok : BlkOk X.N X.env.scope scope own)
    (hg : ∀ (s : Shared) (H : Hp) (C : Addr) (cl : List (Str × Addr)) (fp : List Addr), PG (X.blk s H scope (compEnvC scope cl C X.env) fp) tg (gTg X.K t)) (ht : ∀ (s : Shared) (H : Hp) (C : Addr) (cl : List (Str × Addr)) (fp : List Addr), PTsM (X.blk s H scope (compEnvC scope cl C X.env) fp) c WF ifs test)
    (he : ∀ (s : Shared) (H : Hp) (C : Addr) (cl : List (Str × Addr)) (fp : List Addr), PM (X.blk s H scope (compEnvC scope cl C X.env) fp) c WF elt m)
    (hp : ∀ i, i ∈ on → c.pin i = none) (hs : ∀ i, i ∈ t.slots → i ∈ on) (hf : t.free c) (hfs : ∀ x, foldedSetIterable iter X.env x = pure x := by intro _; rfl) :
    PM X c W (.ListComp elt [⟨tg, iter, ifs, 0⟩] scope pos) (mLc t on src test m) := by
  subst ho
  exact x_lc hc hN hi ok hg ht he hp hs hf hfs
theorem s_setLcN (i : Nat) (ho : own.map (·.2) = on) (hc : X.calm = true) (hN : X.N.Nodup) (hy : X.N[i]? = some y) (hyl : X.env.scope.names.lookup y = some .local) (hpi : c.pin i = none)
    (hsw : swapsWith (.ListComp elt [⟨tg, iter, ifs, 0⟩] scope pos) (some (.Name y py)) spos.line X.env = pure true) (hi : PIM X c W tg iter src) (ok : BlkOk X.N X.env.scope scope own)
    (hg : ∀ (s : Shared) (H : Hp) (C : Addr) (cl : List (Str × Addr)) (fp : List Addr), PG (X.blk s H scope (compEnvC scope cl C X.env) fp) tg (gTg X.K t)) (ht : ∀ (s : Shared) (H : Hp) (C : Addr) (cl : List (Str × Addr)) (fp : List Addr), PTsM (X.blk s H scope (compEnvC scope cl C X.env) fp) c WF ifs test)
    (he : ∀ (s : Shared) (H : Hp) (C : Addr) (cl : List (Str × Addr)) (fp : List Addr), PM (X.blk s H scope (compEnvC scope cl C X.env) fp) c WF elt m)
    (hp : ∀ i, i ∈ on → c.pin i = none) (hs : ∀ i, i ∈ t.slots → i ∈ on) (hf : t.free c) (hfs : ∀ x, foldedSetIterable iter X.env x = pure x := by intro _; rfl) :
    PSM X c W (.Assign [.Name y py] (.ListComp elt [⟨tg, iter, ifs, 0⟩] scope pos) spos) (sSet i (mLc t on src test m)) := by
  subst ho
  exact s_setLc i hc hN hy hyl hpi hsw hi ok hg ht he hp hs hf hfs
end
def fAddI (a b : O) (ρ : Ev) : R O := match intE a with
  | some i => match intE b with
    | some j => .ok (.sh (.int (i + j))) ρ
    | none => .bad
  | none => match strE a with
    | some x => match strE b with
      | some y => if x.length + y.length ≤ 16777216 then .ok (.sh (.str (x ++ y))) ρ else .bad
      | none => .bad
    | none => .bad
abbrev rAddI : R2 := fun x y H Q => (rI0 fun i j => .int (i + j)) x y H Q ∨ ∃ i j, x = .str i ∧ y = .str j ∧ i.length + j.length ≤ sizeLine ∧ Q (.str (i ++ j)) H
theorem iop_addI {X : Cx} : OpR X (inplaceOp .Add) rAddI := iop_add.or iop_add_str
theorem sv_addI {K : PySem.W.Frag} {c : Cc} {g : Str → Option Value} {W : WX} : Serves K c g W rAddI fAddI := by
  intro ρ σ F H E T Sa Sb x y oa ob Q M ra rb _ _ h
  unfold fAddI at h
  cases e1 : intE oa with
  | some i =>
    rw [e1] at h
    simp only at h
    cases e2 : intE ob with
    | none => rw [e2] at h; exact h.elim
    | some j =>
      rw [e2] at h
      have h1 := intE_ok ra e1
      have h2 := intE_ok rb e2
      subst h1 h2
      exact .inl ⟨i, j, rfl, rfl, h.sc M (.int _)⟩
  | none =>
    rw [e1] at h
    simp only at h
    cases e2 : strE oa with
    | none => rw [e2] at h; exact h.elim
    | some i =>
      rw [e2] at h
      simp only at h
      cases e3 : strE ob with
      | none => rw [e3] at h; exact h.elim
      | some j =>
        rw [e3] at h
        simp only at h
        split at h
        · rename_i hz
          have h1 := strE_ok ra e2
          have h2 := strE_ok rb e3
          subst h1 h2
          exact .inr ⟨i, j, rfl, rfl, by rw [line_eq]; exact hz, h.sc M (.str _)⟩
        · exact h.elim
section
variable {ρ : Ev}
theorem f_addI {x y : Int} : fAddI (.sh (.int x)) (.sh (.int y)) ρ = .ok (.sh (.int (x + y))) ρ := (rfl)
end
end MM
namespace MM
open PySem L2
section
variable {K : PySem.W.Frag} {c : Cc} {g : Str → Option Value} {W : WX} {ρ ρ' : Ev} {σ σ' : St} {F F' H H' : Hp} {E E' T T' S S1 S2 : Addr → Prop} {v : V} {o : O} {u : U} {Q : VK} {D : Ends}
end
section
variable {X : Cx} {c : Cc} {W : WX} {e e1 e2 eo ei : Expr} {a b idx : Ag} {m : ME} {pos p2 p3 p4 : Pos} {i : Nat}
end
theorem tn0 : Int.toNat 0 = 0 := (rfl)
theorem tn1 : Int.toNat 1 = 1 := (rfl)
theorem tn2 : Int.toNat 2 = 2 := (rfl)
theorem tn3 : Int.toNat 3 = 3 := (rfl)
theorem tn4 : Int.toNat 4 = 4 := (rfl)
theorem tn5 : Int.toNat 5 = 5 := (rfl)
theorem tn6 : Int.toNat 6 = 6 := (rfl)
theorem tn7 : Int.toNat 7 = 7 := (rfl)
theorem tn8 : Int.toNat 8 = 8 := (rfl)
theorem tn9 : Int.toNat 9 = 9 := (rfl)
theorem tn10 : Int.toNat 10 = 10 := (rfl)
theorem tn11 : Int.toNat 11 = 11 := (rfl)
theorem tn12 : Int.toNat 12 = 12 := (rfl)
theorem at_6 {α : Type} {xs : List α} : at' xs 6 = xs[6]? := (rfl)
theorem at_7 {α : Type} {xs : List α} : at' xs 7 = xs[7]? := (rfl)
theorem at_8 {α : Type} {xs : List α} : at' xs 8 = xs[8]? := (rfl)
theorem at_9 {α : Type} {xs : List α} : at' xs 9 = xs[9]? := (rfl)
theorem at_10 {α : Type} {xs : List α} : at' xs 10 = xs[10]? := (rfl)
theorem at_11 {α : Type} {xs : List α} : at' xs 11 = xs[11]? := (rfl)
theorem at_12 {α : Type} {xs : List α} : at' xs 12 = xs[12]? := (rfl)
end MM
namespace MM
open PySem L2
theorem lpC_fm {t : Tg} {own : List Nat} {test : Ev → R Bool} {elt : ME} (ρ : Ev) (p : U → Bool) (f : U → U) : ∀ (us : List U), (∀ u ∈ us, ∃ ρ1, bind t u ρ = some ρ1 ∧ ∃ ρ2, test ρ1 = .ok (p u) ρ2 ∧ (p u = false → wipeE ρ2 own = ρ) ∧ (p u = true → ∃ ρ3, elt ρ2 = .ok (.sh (f u)) ρ3 ∧ wipeE ρ3 own = ρ)) →
    ∀ acc : List O, lpC t own test elt us acc ρ = .ok (.ol (acc.reverse ++ shs ((us.filter p).map f))) ρ
  | [], _, acc => by simp [lpC, shs]
  | u :: us, h, acc => by
    obtain ⟨ρ1, e1, ρ2, e2, h0, h1⟩ := h u List.mem_cons_self
    have ih := lpC_fm ρ p f us fun v hv => h v (List.mem_cons_of_mem _ hv)
    unfold lpC
    simp only [e1, e2]
    cases q : p u with
    | false =>
      simp only [h0 q]
      rw [ih acc, List.filter_cons_of_neg (by rw [q]; exact Bool.false_ne_true)]
    | true =>
      obtain ⟨ρ3, e3, e4⟩ := h1 q
      simp only [e3, e4]
      rw [ih (.sh (f u) :: acc), List.filter_cons_of_pos q, List.reverse_cons, List.append_assoc]
      rfl
theorem lc_fm {t : Tg} {own : List Nat} {src : Ev → R (List U)} {test : Ev → R Bool} {elt : ME} {ρ ρ1 ρw : Ev} {us : List U} (p : U → Bool) (f : U → U) (hs : src ρ = .ok us ρ1) (hl : us.length ≤ 16777216) (hw : wipeE ρ1 own = ρw)
    (h : ∀ u ∈ us, ∃ ρ1, bind t u ρw = some ρ1 ∧ ∃ ρ2, test ρ1 = .ok (p u) ρ2 ∧ (p u = false → wipeE ρ2 own = ρw) ∧ (p u = true → ∃ ρ3, elt ρ2 = .ok (.sh (f u)) ρ3 ∧ wipeE ρ3 own = ρw)) :
    mLc t own src test elt ρ = .ok (.ol (shs ((us.filter p).map f))) (resE ρ1 own ρw) := by
  unfold mLc
  rw [hs]
  simp only [if_pos hl, hw, lpC_fm ρw p f us h [], List.reverse_nil, List.nil_append]
theorem lpF_ix {t : Tg} {body : MS} (P : Nat → Ev → Prop) : ∀ (us : List U) (k : Nat), (∀ i u, us[i]? = some u → ∀ ρ, P (k + i) ρ → ∃ ρ1, bind t u ρ = some ρ1 ∧ ∃ ρ2, (body ρ1 = .nx ρ2 ∨ body ρ1 = .ct ρ2) ∧ P (k + i + 1) ρ2) → ∀ ρ, P k ρ → ∃ ρ', lpF t body us ρ = .nx ρ' ∧ P (k + us.length) ρ'
  | [], k, _, ρ, hp => ⟨ρ, rfl, hp⟩
  | u :: us, k, h, ρ, hp => by
    obtain ⟨ρ1, e1, ρ2, e2, p2⟩ := h 0 u rfl ρ hp
    obtain ⟨ρ', e3, p3⟩ := lpF_ix P us (k + 1) (fun i v hv ρ hp => by
      have := h (i + 1) v (by simpa using hv) ρ (by rw [show k + (i + 1) = k + 1 + i by omega]; exact hp)
      rw [show k + (i + 1) + 1 = k + 1 + i + 1 by omega] at this
      exact this) ρ2 p2
    refine ⟨ρ', ?_, by rw [List.length_cons, show k + (us.length + 1) = k + 1 + us.length by omega]; exact p3⟩
    unfold lpF
    rw [e1]
    rcases e2 with e2 | e2
    · simp only [e2]; exact e3
    · simp only [e2]; exact e3
theorem while_e {k : Nat} {t : Ev → R Bool} {body : MS} {ρ : Ev} : sWhile k t body ρ = lpW t body k ρ := rfl
def iU (xs : List Int) : List U := xs.map .int
theorem iU_get {xs : List Int} {i : Nat} : (iU xs)[i]? = (xs[i]?).map .int := by unfold iU; rw [List.getElem?_map]
theorem iU_len {xs : List Int} : (iU xs).length = xs.length := by unfold iU; rw [List.length_map]
theorem shs_len {us : List U} : (shs us).length = us.length := by unfold shs; rw [List.length_map]
theorem shs_get {us : List U} {i : Nat} : (shs us)[i]? = (us[i]?).map .sh := by unfold shs; rw [List.getElem?_map]
theorem allSh_shs : ∀ us : List U, allSh (shs us) = some us
  | [] => rfl
  | u :: us => by
    show (match allSh (shs us) with | some us => some (u :: us) | none => none) = _
    rw [allSh_shs us]
theorem viewO_shs {us : List U} : viewO (.ol (shs us)) = some (.list us) := by
  rw [vO_l, viewOs_shs]
  rfl
theorem intsU_iU : ∀ xs : List Int, intsU (iU xs) = some xs
  | [] => rfl
  | x :: xs => by
    show (match intsU (iU xs) with | some is => some (x :: is) | none => none) = _
    rw [intsU_iU xs]
theorem atI_n {α : Type} {xs : List α} {x : Int} (h : 0 ≤ x) : at' xs x = xs[x.toNat]? := by
  unfold at'
  rw [if_pos h]
theorem depth_intsU : ∀ xs : List Int, PyData.depthAll (iU xs) = 0 := PySem.W.depth_ints
section
variable {ρ : Ev} {a : Ag} {lo hi : Option Ag} {d : Dn} {o : O} {us : List U} {i : Nat} {cl : Str} {k : Int}
def eb2 (ρ : Ev) : Option Int → R (Option Int)
  | some i => .ok (some i) ρ
  | none => .bad
def eb1 : R Dn → R (Option Int)
  | .ok d ρ => eb2 ρ ((oOf ρ d).bind intE)
  | .exc cl ρ => .exc cl ρ
  | .bad => .bad
theorem evB_n : evB none ρ = .ok none ρ := (rfl)
theorem evB_s : evB (some a) ρ = eb1 (evA a ρ) := by
  simp only [evB]
  rcases evA a ρ with ⟨d, ρ1⟩ | ⟨c, ρ1⟩ | _ <;> try rfl
  simp only [eb1]
  cases oOf ρ1 d with
  | none => rfl
  | some o => simp only [Option.bind_some]; cases intE o <;> rfl
theorem eb1_o : eb1 (.ok d ρ) = eb2 ρ ((oOf ρ d).bind intE) := (rfl)
theorem eb2_o : eb2 ρ (some k) = .ok (some k) ρ := (rfl)
def sl3 (l u : Option Int) (ρ : Ev) : Option O → R O
  | some o => fSl l u o ρ
  | none => .bad
def sl2 (d : Dn) (l : Option Int) : R (Option Int) → R O
  | .ok u ρ => sl3 l u ρ (oOf ρ d)
  | .exc cl ρ => .exc cl ρ
  | .bad => .bad
def sl1 (hi : Option Ag) (d : Dn) : R (Option Int) → R O
  | .ok l ρ => sl2 d l (evB hi ρ)
  | .exc cl ρ => .exc cl ρ
  | .bad => .bad
def sl0 (lo hi : Option Ag) : R Dn → R O
  | .ok d ρ => sl1 hi d (evB lo ρ)
  | .exc cl ρ => .exc cl ρ
  | .bad => .bad
theorem sl_e : mSl a lo hi ρ = sl0 lo hi (evA a ρ) := by
  unfold mSl
  rcases evA a ρ with ⟨d, ρ1⟩ | ⟨c, ρ1⟩ | _ <;> try rfl
  all_goals
    simp only [sl0]
    rcases evB lo ρ1 with ⟨l, ρ2⟩ | ⟨c, ρ2⟩ | _ <;> try rfl
    all_goals
      simp only [sl1]
      rcases evB hi ρ2 with ⟨u, ρ3⟩ | ⟨c, ρ3⟩ | _ <;> try rfl
      all_goals
        simp only [sl2]
        cases oOf ρ3 d <;> rfl
theorem sl0_o : sl0 lo hi (.ok d ρ) = sl1 hi d (evB lo ρ) := (rfl)
theorem sl1_o {l : Option Int} : sl1 hi d (.ok l ρ) = sl2 d l (evB hi ρ) := (rfl)
theorem sl2_o {l u : Option Int} : sl2 d l (.ok u ρ) = sl3 l u ρ (oOf ρ d) := (rfl)
theorem sl3_o {l u : Option Int} : sl3 l u ρ (some o) = fSl l u o ρ := (rfl)
theorem fSl_sh {l u : Option Int} : fSl l u (.sh (.list us)) ρ = .ok (.ol (shs (cutU us l u))) ρ := (rfl)
theorem fSl_ol {l u : Option Int} : fSl l u (.ol (shs us)) ρ = .ok (.ol (shs (cutU us l u))) ρ := by simp only [fSl, lstE, allSh_shs]
def sa2 (ρ : Ev) : Option (Option O) → R (List U)
  | some (some (.sh u)) => sr3 ρ (itU u)
  | _ => .bad
def sa1 : R Dn → R (List U)
  | .ok (.v i) ρ => sa2 ρ ρ[i]?
  | .ok (.o x) ρ => sr3 ρ ((viewO x).bind itU)
  | .exc cl ρ => .exc cl ρ
  | .bad => .bad
theorem sa_e : srcA a ρ = sa1 (evA a ρ) := by
  unfold srcA
  rcases evA a ρ with ⟨d, ρ1⟩ | ⟨c, ρ1⟩ | _ <;> try rfl
  cases d with
  | v i =>
    simp only [sa1]
    rcases ρ1[i]? with _ | _ | o <;> try rfl
    all_goals (cases o <;> try rfl)
  | o x =>
    simp only [sa1]
    cases viewO x with
    | none => rfl
    | some u => simp only [Option.bind_some]; cases itU u <;> rfl
theorem sa1_v : sa1 (.ok (.v i) ρ) = sa2 ρ ρ[i]? := (rfl)
theorem sa1_o : sa1 (.ok (.o o) ρ) = sr3 ρ ((viewO o).bind itU) := (rfl)
theorem sa2_o {u : U} : sa2 ρ (some (some (.sh u))) = sr3 ρ (itU u) := (rfl)
theorem itU_l : itU (.list us) = some us := (rfl)
theorem itU_t : itU (.tuple us) = some us := (rfl)
theorem fLi_sh : fList [.sh (.list us)] ρ = .ok (.ol (shs us)) ρ := (rfl)
theorem fLi_tu : fList [.sh (.tuple us)] ρ = .ok (.ol (shs us)) ρ := (rfl)
theorem fLi_ol : fList [.ol (shs us)] ρ = .ok (.ol (shs us)) ρ := by simp only [fList, seqE, lstE, allSh_shs]
theorem f_sum {xs : List Int} : f1 sumO [.sh (.list (iU xs))] ρ = .ok (.sh (.int (sumL xs))) ρ := by simp only [f1, sumO, lstE, intsU_iU]
theorem f_sumo {xs : List Int} : f1 sumO [.ol (shs (iU xs))] ρ = .ok (.sh (.int (sumL xs))) ρ := by simp only [f1, sumO, lstE, allSh_shs, intsU_iU]
theorem rev_sh : revO [.sh (.list us)] ρ = .ok (.ol (shs us.reverse)) ρ := (rfl)
theorem rev_ol : revO [.ol (shs us)] ρ = .ok (.ol (shs us.reverse)) ρ := by simp only [revO, lstE, allSh_shs]
theorem isi_lst_l : fIsi .lst (.sh (.list us)) ρ = .ok (.sh (.bool true)) ρ := (rfl)
theorem isi_lst_o {os : List O} : fIsi .lst (.ol os) ρ = .ok (.sh (.bool true)) ρ := (rfl)
theorem isi_tup_t : fIsi .tup (.sh (.tuple us)) ρ = .ok (.sh (.bool true)) ρ := (rfl)
theorem eqv_nil : PyData.eqv (.list us) (.list []) = us.isEmpty := by cases us <;> rfl
theorem fEq_nil : fEq (.sh (.list us)) (.ol []) ρ = .ok (.sh (.bool us.isEmpty)) ρ := by
  have h : eqU (.list us) (.list []) = some us.isEmpty := by
    show (if (PyData.list us).depth ≤ 60 ∨ (PyData.list []).depth ≤ 60 then some (PyData.eqv (.list us) (.list [])) else none) = _
    rw [if_pos (Or.inr (by decide)), eqv_nil]
  show (match viewO (.ol []) with | some e => (match eqU (.list us) e with | some k => R.ok (O.sh (.bool k)) ρ | none => .bad) | none => .bad) = _
  show (match eqU (.list us) (.list []) with | some k => R.ok (O.sh (.bool k)) ρ | none => .bad) = _
  rw [h]
theorem fEq_nilo : fEq (.ol (shs us)) (.ol []) ρ = .ok (.sh (.bool us.isEmpty)) ρ := by
  have h : fEq (.ol (shs us)) (.ol []) ρ = fEq (.sh (.list us)) (.ol []) ρ := by
    unfold fEq
    rw [viewO_shs]
    rfl
  rw [h, fEq_nil]
theorem omap_n {α β : Type} {f : α → β} : Option.map f none = none := (rfl)
end
end MM
namespace MM
open PySem L2
section
variable {X : Cx} {c : Cc} {W : WX} {st : Stmt} {ss : List Stmt} {e : Expr}
end
abbrev T3 := Int × Int × Int
def tU (t : T3) : U := .tuple [.int t.1, .int t.2.1, .int t.2.2]
def tUs (ts : List T3) : List U := ts.map tU
theorem tUs_len {ts : List T3} : (tUs ts).length = ts.length := by unfold tUs; rw [List.length_map]
theorem tUs_snoc {ts : List T3} {a b c : Int} : shs (tUs ts) ++ [.sh (.tuple [.int a, .int b, .int c])] = shs (tUs (ts ++ [(a, b, c)])) := by simp [shs, tUs, tU]
theorem perm_ins {α : Type} (le : α → α → Bool) (a : α) : ∀ l : List α, (insU le a l).Perm (a :: l)
  | [] => List.Perm.refl _
  | b :: l => by
    unfold insU
    split
    · exact List.Perm.refl _
    · exact ((perm_ins le a l).cons b).trans (List.Perm.swap a b l)
theorem perm_sort {α : Type} (le : α → α → Bool) : ∀ l : List α, (isortU le l).Perm l
  | [] => List.Perm.refl _
  | a :: l => (perm_ins le a _).trans ((perm_sort le l).cons a)
theorem ins_map {α β : Type} (f : α → β) (le : β → β → Bool) (a : α) : ∀ l : List α, insU le (f a) (l.map f) = (insU (fun x y => le (f x) (f y)) a l).map f
  | [] => rfl
  | b :: l => by
    rw [List.map_cons]
    unfold insU
    split
    · rfl
    · rw [List.map_cons, ins_map f le a l]
theorem sort_map {α β : Type} (f : α → β) (le : β → β → Bool) : ∀ l : List α, isortU le (l.map f) = (isortU (fun x y => le (f x) (f y)) l).map f
  | [] => rfl
  | a :: l => by rw [List.map_cons]; unfold isortU; rw [sort_map f le l, ins_map]
def sortT (ts : List T3) : List T3 := isortU (fun x y => leU (tU x) (tU y)) ts
theorem has_t : ∀ ts : List T3, hasAll (.tup .int) (tUs ts) = true
  | [] => rfl
  | t :: ts => has_t ts
theorem low_t : ∀ ts : List T3, lowAll (tUs ts) = true
  | [] => rfl
  | t :: ts => low_t ts
theorem okSort_t {ts : List T3} (h : ts.length ≤ 16777216) : okSort (tUs ts) = true := by
  unfold okSort
  rw [low_t, tUs_len, decide_eq_true h]
  have : (shapes.any fun s => hasAll s (tUs ts)) = true := List.any_eq_true.mpr ⟨.tup .int, by simp [shapes], has_t ts⟩
  rw [this]
  rfl
theorem fSort_t {ts : List T3} {ρ : Ev} (h : ts.length ≤ 16777216) : fSort [.ol (shs (tUs ts))] ρ = .ok (.ol (shs (tUs (sortT ts)))) ρ := by
  simp only [fSort, lstE, allSh_shs, okSort_t h, if_true]
  unfold tUs sortT
  rw [sort_map]
theorem sortT_mem {ts : List T3} {t : T3} : t ∈ sortT ts ↔ t ∈ ts := (perm_sort _ ts).mem_iff
theorem sortT_len {ts : List T3} : (sortT ts).length = ts.length := (perm_sort _ ts).length_eq
theorem bind_t3 {i j k : Nat} {t : T3} {ρ : Ev} : bind (.tp [i, j, k]) (tU t) ρ = some (((ρ.set i (some (.sh (.int t.1)))).set j (some (.sh (.int t.2.1)))).set k (some (.sh (.int t.2.2)))) := rfl
theorem at_t0 {t : T3} : atO (.sh (tU t)) 0 = some (.int t.1) := rfl
theorem at_t1 {t : T3} : atO (.sh (tU t)) 1 = some (.int t.2.1) := rfl
theorem at_t2 {t : T3} : atO (.sh (tU t)) 2 = some (.int t.2.2) := rfl
theorem alike_t : ∀ ts : List T3, PySem.W.alikeAll (tUs ts) (tUs ts) = true
  | [] => by unfold tUs; rw [List.map_nil, PySem.W.alikeAll]
  | t :: ts => by
    have h := alike_t ts
    show PySem.W.alikeAll (tU t :: tUs ts) (tU t :: tUs ts) = true
    simp only [PySem.W.alikeAll, tU, PySem.W.alike, Bool.true_and]
    exact h
theorem depth_t : ∀ ts : List T3, PyData.depthAll (tUs ts) ≤ 1
  | [] => by unfold tUs; simp [PyData.depthAll]
  | t :: ts => by
    have h := depth_t ts
    show PyData.depthAll (tU t :: tUs ts) ≤ 1
    simp only [PyData.depthAll, tU, PyData.depth]
    omega
theorem depth_lt (ts : List T3) : (PyData.list (tUs ts)).depth ≤ 60 := by
  have h := depth_t ts
  simp only [PyData.depth]
  omega
section
variable {ρ : Ev} {i : Nat} {o oa : O} {os : List O} {a idx : Ag} {d : Dn} {fo : O → O → Ev → R O} {k : Int} {u : U}
def ax5 (i : Nat) (k : Int) : R O → Fl
  | .ok o ρ => putIx i k o ρ
  | .exc cl r => .exc cl r
  | .bad => .bad
def ax4 (i : Nat) (k : Int) (fo : O → O → Ev → R O) (u : U) (ρ : Ev) : Option O → Fl
  | some oa => ax5 i k (fo (.sh u) oa ρ)
  | none => .bad
def ax3 (i : Nat) (k : Int) (fo : O → O → Ev → R O) (u : U) : R Dn → Fl
  | .ok da ρ => ax4 i k fo u ρ (oOf ρ da)
  | .exc cl r => .exc cl r
  | .bad => .bad
def ax2 (i : Nat) (k : Int) (fo : O → O → Ev → R O) (a : Ag) (ρ : Ev) : Option U → Fl
  | some u => ax3 i k fo u (evA a ρ)
  | none => .bad
def ax1 (i : Nat) (fo : O → O → Ev → R O) (a : Ag) (ρ : Ev) : Option Int → Option (Option O) → Fl
  | some k, some (some (.ol os)) => ax2 i k fo a ρ (shE (at' os k))
  | _, _ => .bad
def ax0 (i : Nat) (fo : O → O → Ev → R O) (a : Ag) : R Dn → Fl
  | .ok d ρ => ax1 i fo a ρ ((oOf ρ d).bind intE) ρ[i]?
  | .exc cl r => .exc cl r
  | .bad => .bad
def axB (i : Nat) (fo : O → O → Ev → R O) (idx a : Ag) (ρ : Ev) : Option (Option O) → Fl
  | some (some (.ol _)) => ax0 i fo a (evA idx ρ)
  | _ => .bad
theorem ax_e : sAugIx fo i idx a ρ = axB i fo idx a ρ ρ[i]? := by
  unfold sAugIx olAt
  rcases ρ[i]? with _ | _ | o <;> try rfl
  cases o <;> try rfl
  simp only [axB]
  rcases evA idx ρ with ⟨d, ρ1⟩ | ⟨c, ρ1⟩ | _ <;> try rfl
  simp only [ax0]
  cases oOf ρ1 d with
  | none => rfl
  | some z =>
    simp only [Option.bind_some]
    cases intE z with
    | none => rfl
    | some k =>
      simp only
      rcases ρ1[i]? with _ | _ | o <;> try rfl
      all_goals
        cases o <;> try rfl
      all_goals
        rename_i os
        simp only [ax1]
        cases shE (at' os k) with
        | none => rfl
        | some u =>
          simp only [ax2]
          rcases evA a ρ1 with ⟨da, ρ2⟩ | ⟨c, ρ2⟩ | _ <;> try rfl
          all_goals
            simp only [ax3]
            cases oOf ρ2 da with
            | none => rfl
            | some oa => simp only [ax4]; cases fo (.sh u) oa ρ2 <;> rfl
theorem axB_o : axB i fo idx a ρ (some (some (.ol os))) = ax0 i fo a (evA idx ρ) := (rfl)
theorem ax0_o : ax0 i fo a (.ok d ρ) = ax1 i fo a ρ ((oOf ρ d).bind intE) ρ[i]? := (rfl)
theorem ax1_o : ax1 i fo a ρ (some k) (some (some (.ol os))) = ax2 i k fo a ρ (shE (at' os k)) := (rfl)
theorem ax2_o : ax2 i k fo a ρ (some u) = ax3 i k fo u (evA a ρ) := (rfl)
theorem ax3_o : ax3 i k fo u (.ok d ρ) = ax4 i k fo u ρ (oOf ρ d) := (rfl)
theorem ax4_o : ax4 i k fo u ρ (some oa) = ax5 i k (fo (.sh u) oa ρ) := (rfl)
theorem ax5_o : ax5 i k (.ok o ρ) = putIx i k o ρ := (rfl)
end
theorem so_set {xs : List Int} {z : Int} {k : Nat} : (shs (iU xs)).set k (.sh (.int z)) = shs (iU (xs.set k z)) := by simp [shs, iU, List.map_set]
theorem so_get {xs : List Int} {k : Nat} {z : Int} (h : xs[k]? = some z) : (shs (iU xs))[k]? = some (.sh (.int z)) := by rw [shs_get, iU_get, h]; rfl
theorem so_at {xs : List Int} {k : Int} {z : Int} (h0 : 0 ≤ k) (h : xs[k.toNat]? = some z) : at' (shs (iU xs)) k = some (.sh (.int z)) := by rw [atI_n h0]; exact so_get h
theorem rep_ones {d : Nat} {z : Int} {ρ : Ev} (h : d ≤ 1000) : fMul (.ol [.sh (.int z)]) (.sh (.int d)) ρ = .ok (.ol (shs (iU (List.replicate d z)))) ρ := by
  have e : (List.replicate d [PyData.int z]).flatten = iU (List.replicate d z) := by
    induction d with
    | zero => rfl
    | succ n ih =>
      rw [List.replicate_succ, List.flatten_cons, ih (by omega)]
      rfl
  simp only [fMul, intE, olE, allSh]
  rw [Int.toNat_natCast, e, if_pos ⟨by omega, by omega, by simp; omega⟩]
end MM
namespace MM
open PySem L2
section
variable {t : Tg} {i : Nat} {body : MS} {ρ : Ev} {os : List O} {u : U}
def fv0 (t : Tg) (i : Nat) (body : MS) (ρ : Ev) : Option (Option O) → Fl
  | some (some (.ol os)) => lpB t body i os.length 0 ρ
  | _ => sFor t (srcA (.var i)) body ρ
theorem forV_e : sForV t i body ρ = fv0 t i body ρ ρ[i]? := by
  unfold sForV fv0
  rfl
theorem fv0_ol : fv0 t i body ρ (some (some (.ol os))) = lpB t body i os.length 0 ρ := (rfl)
theorem fv0_sh : fv0 t i body ρ (some (some (.sh u))) = sFor t (srcA (.var i)) body ρ := (rfl)
end
theorem sumL_app (xs ys : List Int) : sumL (xs ++ ys) = sumL xs + sumL ys := by rw [sumL_eq, sumL_eq, sumL_eq, List.sum_append]
theorem sumL_nn : ∀ {xs : List Int}, (∀ x ∈ xs, 0 ≤ x) → 0 ≤ sumL xs
  | [], _ => Int.le_refl _
  | y :: ys, h => by
    have := sumL_nn (xs := ys) fun x hx => h x (List.mem_cons_of_mem _ hx)
    have := h y List.mem_cons_self
    rw [sumL]; omega
theorem sumL_le : ∀ {xs : List Int} {k : Nat} {x : Int}, (∀ x ∈ xs, 0 ≤ x) → xs[k]? = some x → x ≤ sumL xs
  | [], _, _, _, h => by simp at h
  | y :: ys, 0, x, hn, h => by
    have := sumL_nn (xs := ys) fun x hx => hn x (List.mem_cons_of_mem _ hx)
    simp at h; subst h; rw [sumL]; omega
  | y :: ys, k + 1, x, hn, h => by
    have := sumL_le (xs := ys) (k := k) (x := x) (fun x hx => hn x (List.mem_cons_of_mem _ hx)) (by simpa using h)
    have := hn y List.mem_cons_self
    rw [sumL]; omega
structure Good (d : Int) (t : T3) : Prop where
  l1 : 1 ≤ t.1
  lh : t.1 < t.2.1
  hd : t.2.1 ≤ d
  w1 : 1 ≤ t.2.2
  w6 : t.2.2 ≤ 60
abbrev to (ts : List T3) : O := .ol (shs (tUs ts))
def comeZ (ts : List T3) (f : Int) : Int := sumL ((ts.filter fun t => t.2.1 == f).map (·.2.2))
def goZ (ts : List T3) (f : Int) : Int := sumL ((ts.filter fun t => t.1 == f).map (·.2.2))
def dueZ (ts : List T3) (f : Int) : Int := 1 + comeZ ts f - goZ ts f
def dueL (d : Nat) (ts : List T3) : List Int := (List.range d).map fun i : Nat => dueZ ts ((i : Int) + 1)
theorem dueL_len {d : Nat} {ts : List T3} : (dueL d ts).length = d := by unfold dueL; rw [List.length_map, List.length_range]
theorem dueL_get {d : Nat} {ts : List T3} {i : Nat} (h : i < d) : (dueL d ts)[i]? = some (dueZ ts ((i : Int) + 1)) := by
  unfold dueL; rw [List.getElem?_map, List.getElem?_range h]; rfl
theorem dueL_at {d : Nat} {ts : List T3} {f : Int} (h : 1 ≤ f) (h2 : f ≤ d) : (dueL d ts)[(f - 1).toNat]? = some (dueZ ts f) := by
  rw [dueL_get (by omega), show (((f - 1).toNat : Nat) : Int) + 1 = f by omega]
theorem dueL_nil {d : Nat} : dueL d [] = List.replicate d 1 := by
  apply List.ext_getElem?
  intro i
  by_cases h : i < d
  · rw [dueL_get h, List.getElem?_replicate, if_pos h]; rfl
  · rw [List.getElem?_eq_none (by rw [dueL_len]; omega), List.getElem?_eq_none (by rw [List.length_replicate]; omega)]
theorem comeZ_snoc {ts : List T3} {t : T3} {f : Int} : comeZ (ts ++ [t]) f = comeZ ts f + (if t.2.1 = f then t.2.2 else 0) := by
  unfold comeZ
  rw [List.filter_append, List.map_append, sumL_app]
  by_cases h : t.2.1 = f
  · rw [List.filter_cons_of_pos (by simpa using h), if_pos h]; simp [sumL]
  · rw [List.filter_cons_of_neg (by simpa using h), if_neg h]; simp [sumL]
theorem goZ_snoc {ts : List T3} {t : T3} {f : Int} : goZ (ts ++ [t]) f = goZ ts f + (if t.1 = f then t.2.2 else 0) := by
  unfold goZ
  rw [List.filter_append, List.map_append, sumL_app]
  by_cases h : t.1 = f
  · rw [List.filter_cons_of_pos (by simpa using h), if_pos h]; simp [sumL]
  · rw [List.filter_cons_of_neg (by simpa using h), if_neg h]; simp [sumL]
theorem dueL_snoc {d : Nat} {ts : List T3} {l h w : Int} (l1 : 1 ≤ l) (lh : l < h) (hd : h ≤ d) : dueL d (ts ++ [(l, h, w)]) = ((dueL d ts).set (l - 1).toNat (dueZ ts l - w)).set (h - 1).toNat (dueZ ts h + w) := by
  apply List.ext_getElem?
  intro i
  by_cases hi : i < d
  · rw [dueL_get hi]
    unfold dueZ
    rw [comeZ_snoc, goZ_snoc]
    show some (1 + (comeZ ts ((i : Int) + 1) + (if h = (i : Int) + 1 then w else 0)) - (goZ ts ((i : Int) + 1) + (if l = (i : Int) + 1 then w else 0))) = _
    rw [List.getElem?_set]
    by_cases e1 : (h - 1).toNat = i
    · have a1 : h = (i : Int) + 1 := by omega
      have a2 : ¬ l = (i : Int) + 1 := by omega
      have a3 : (h - 1).toNat < ((dueL d ts).set (l - 1).toNat (1 + comeZ ts l - goZ ts l - w)).length := by rw [List.length_set, dueL_len]; omega
      rw [if_pos e1, if_pos a3, if_pos a1, if_neg a2, ← a1]
      congr 1; omega
    · rw [if_neg e1, List.getElem?_set]
      by_cases e2 : (l - 1).toNat = i
      · have a1 : ¬ h = (i : Int) + 1 := by omega
        have a2 : l = (i : Int) + 1 := by omega
        have a3 : (l - 1).toNat < (dueL d ts).length := by rw [dueL_len]; omega
        rw [if_pos e2, if_pos a3, if_neg a1, if_pos a2, ← a2]
        congr 1; omega
      · rw [if_neg e2, dueL_get hi, if_neg (show ¬ h = (i : Int) + 1 by omega), if_neg (show ¬ l = (i : Int) + 1 by omega)]
        unfold dueZ
        congr 1; omega
  · rw [List.getElem?_eq_none (by rw [dueL_len]; omega), List.getElem?_eq_none (by rw [List.length_set, List.length_set, dueL_len]; omega)]
theorem dueL_snoc_at {d : Nat} {ts : List T3} {l h z : Int} (l1 : 1 ≤ l) (lh : l < h) (hd : h ≤ d) : ((dueL d ts).set (l - 1).toNat z)[(h - 1).toNat]? = some (dueZ ts h) := by
  rw [List.getElem?_set_ne (by omega), dueL_at (by omega) hd]
theorem sortT_perm {ts : List T3} : (sortT ts).Perm ts := perm_sort _ ts
theorem tUs_get {ts : List T3} {k : Nat} {u : U} (h : (tUs ts)[k]? = some u) : ∃ t, ts[k]? = some t ∧ u = tU t := by
  unfold tUs at h
  rw [List.getElem?_map] at h
  cases e : ts[k]? with
  | none => rw [e] at h; cases h
  | some t => rw [e] at h; cases h; exact ⟨t, rfl, rfl⟩
section
variable {ρ : Ev} {o1 o2 : O} {u : U} {xs : List Int} {ts : List T3} {b : Bool}
theorem eqU_l {us : List U} (h : (PyData.list us).depth ≤ 60) (ha : PySem.W.alikeAll us us = true) : eqU (.list us) (.list us) = some true := by
  show (if (PyData.list us).depth ≤ 60 ∨ (PyData.list us).depth ≤ 60 then some (PyData.eqv (.list us) (.list us)) else none) = _
  rw [if_pos (Or.inl h), PySem.W.eqv_refl_alike _ (by simp only [PySem.W.alike]; exact ha)]
theorem fNe_v (h1 : viewO o1 = some u) (h2 : viewO o2 = some u) (h : eqU u u = some true) : fNe o1 o2 ρ = .ok (.sh (.bool false)) ρ := by simp only [fNe, h1, h2, h, Bool.not_true]
theorem fEq_v (h1 : viewO o1 = some u) (h2 : viewO o2 = some u) (h : eqU u u = some true) : fEq o1 o2 ρ = .ok (.sh (.bool true)) ρ := by simp only [fEq, h1, h2, h]
theorem depth_il (xs : List Int) : (PyData.list (iU xs)).depth ≤ 60 := by simp only [PyData.depth, depth_intsU]; decide
theorem eqU_i : eqU (.list (iU xs)) (.list (iU xs)) = some true := eqU_l (depth_il xs) (PySem.W.alike_ints xs xs)
theorem eqU_t : eqU (.list (tUs ts)) (.list (tUs ts)) = some true := eqU_l (depth_lt ts) (alike_t ts)
theorem viewO_sh : viewO (.sh u) = some u := (rfl)
theorem ne_i1 : fNe (.ol (shs (iU xs))) (.ol (shs (iU xs))) ρ = .ok (.sh (.bool false)) ρ := fNe_v viewO_shs viewO_shs eqU_i
theorem ne_i2 : fNe (.ol (shs (iU xs))) (.sh (.list (iU xs))) ρ = .ok (.sh (.bool false)) ρ := fNe_v viewO_shs viewO_sh eqU_i
theorem ne_i3 : fNe (.sh (.list (iU xs))) (.ol (shs (iU xs))) ρ = .ok (.sh (.bool false)) ρ := fNe_v viewO_sh viewO_shs eqU_i
theorem ne_i4 : fNe (.sh (.list (iU xs))) (.sh (.list (iU xs))) ρ = .ok (.sh (.bool false)) ρ := fNe_v viewO_sh viewO_sh eqU_i
theorem ne_t1 : fNe (.ol (shs (tUs ts))) (.ol (shs (tUs ts))) ρ = .ok (.sh (.bool false)) ρ := fNe_v viewO_shs viewO_shs eqU_t
theorem ne_t2 : fNe (.ol (shs (tUs ts))) (.sh (.list (tUs ts))) ρ = .ok (.sh (.bool false)) ρ := fNe_v viewO_shs viewO_sh eqU_t
theorem ne_t3 : fNe (.sh (.list (tUs ts))) (.ol (shs (tUs ts))) ρ = .ok (.sh (.bool false)) ρ := fNe_v viewO_sh viewO_shs eqU_t
theorem ne_t4 : fNe (.sh (.list (tUs ts))) (.sh (.list (tUs ts))) ρ = .ok (.sh (.bool false)) ρ := fNe_v viewO_sh viewO_sh eqU_t
theorem ne_b : fNe (.sh (.bool b)) (.sh (.bool b)) ρ = .ok (.sh (.bool false)) ρ := by cases b <;> rfl
def minZ : List Int → Int
  | x :: xs => minI x xs
  | [] => 0
theorem f_minl (h : xs ≠ []) : f1 minO [.ol (shs (iU xs))] ρ = .ok (.sh (.int (minZ xs))) ρ := by
  cases xs with
  | nil => exact absurd rfl h
  | cons x xs => simp only [f1, minO, lstE, allSh_shs, intsU_iU]; rfl
theorem bls_t : ∀ us : List U, blsU (us.map fun _ => .bool true) = some (us.map fun _ => true)
  | [] => rfl
  | u :: us => by
    show (match blsU (us.map fun _ => .bool true) with | some bs => some (true :: bs) | none => none) = _
    rw [bls_t us]; rfl
theorem all_tt {us : List U} : f1 allO [.ol (shs (us.map fun _ => .bool true))] ρ = .ok (.sh (.bool true)) ρ := by
  have : ((us.map fun _ => true).all id) = true := by
    rw [List.all_eq_true]
    intro x hx
    obtain ⟨_, _, rfl⟩ := List.mem_map.mp hx
    rfl
  simp only [f1, allO, lstE, allSh_shs, bls_t, this]
theorem isi_bl_b : fIsi .bl (.sh (.bool b)) ρ = .ok (.sh (.bool true)) ρ := (rfl)
end
section
variable {ρ : Ev} {cl : Str} {fo2 : O → O → Ev → R O} {f1' : O → Ev → R O} {fo : List O → Ev → R O} {mf : List O → R O} {a b : Ag} {da : Dn} {as : List Ag}
theorem bin1_x : bin1 fo2 b (.exc cl ρ) = .exc cl ρ := (rfl)
theorem bin2_x : bin2 fo2 da (.exc cl ρ) = .exc cl ρ := (rfl)
theorem un1_x : un1 f1' (.exc cl ρ) = .exc cl ρ := (rfl)
theorem evs1_x : evs1 as (.exc cl ρ) = .exc cl ρ := (rfl)
theorem evs2_x : evs2 da (.exc cl ρ) = .exc cl ρ := (rfl)
theorem cb1_x : cb1 fo (.exc cl ρ) = .exc cl ρ := (rfl)
theorem call1_x : call1 mf (.exc cl ρ) = .exc cl ρ := (rfl)
theorem lst1_x : lst1 (.exc cl ρ) = .exc cl ρ := (rfl)
theorem tup1_x : tup1 (.exc cl ρ) = .exc cl ρ := (rfl)
end
end MM
namespace MM
open PySem L2
section
variable {t : Tg} {body : MS}
end
section
variable {ρ : Ev} {xs : List Int} {us ws : List U} {ts : List T3} {d : Int}
theorem f_maxD : fMaxD (.ol (shs (iU xs))) (.sh (.int d)) ρ = .ok (.sh (.int (maxDf d xs))) ρ := by
  simp only [fMaxD, lstE, allSh_shs, intsU_iU, intE]
theorem fNe_nilo : fNe (.ol (shs us)) (.ol []) ρ = .ok (.sh (.bool !us.isEmpty)) ρ := by
  have h : eqU (.list us) (.list []) = some us.isEmpty := by
    show (if (PyData.list us).depth ≤ 60 ∨ (PyData.list []).depth ≤ 60 then some (PyData.eqv (.list us) (.list [])) else none) = _
    rw [if_pos (Or.inr (by decide)), eqv_nil]
  unfold fNe
  rw [viewO_shs]
  show (match eqU (.list us) (.list []) with | some k => R.ok (O.sh (.bool (!k))) ρ | none => .bad) = _
  rw [h]
theorem eq_t1 : fEq (.ol (shs (tUs ts))) (.ol (shs (tUs ts))) ρ = .ok (.sh (.bool true)) ρ := fEq_v viewO_shs viewO_shs eqU_t
theorem eq_t2 : fEq (.ol (shs (tUs ts))) (.sh (.list (tUs ts))) ρ = .ok (.sh (.bool true)) ρ := fEq_v viewO_shs viewO_sh eqU_t
theorem eq_t3 : fEq (.sh (.list (tUs ts))) (.ol (shs (tUs ts))) ρ = .ok (.sh (.bool true)) ρ := fEq_v viewO_sh viewO_shs eqU_t
theorem eq_t4 : fEq (.sh (.list (tUs ts))) (.sh (.list (tUs ts))) ρ = .ok (.sh (.bool true)) ρ := fEq_v viewO_sh viewO_sh eqU_t
theorem eq_i1 : fEq (.ol (shs (iU xs))) (.ol (shs (iU xs))) ρ = .ok (.sh (.bool true)) ρ := fEq_v viewO_shs viewO_shs eqU_i
theorem eq_i2 : fEq (.ol (shs (iU xs))) (.sh (.list (iU xs))) ρ = .ok (.sh (.bool true)) ρ := fEq_v viewO_shs viewO_sh eqU_i
theorem eq_i3 : fEq (.sh (.list (iU xs))) (.ol (shs (iU xs))) ρ = .ok (.sh (.bool true)) ρ := fEq_v viewO_sh viewO_shs eqU_i
theorem eq_i4 : fEq (.sh (.list (iU xs))) (.sh (.list (iU xs))) ρ = .ok (.sh (.bool true)) ρ := fEq_v viewO_sh viewO_sh eqU_i
end
end MM
namespace MM
open PySem L2
section
variable {ρ : Ev}
end
abbrev pl (xs : List Int) (b : Int) : U := .tuple [.list (iU xs), .int b]
end MM
namespace MM
open PySem L2
section
variable {X : Cx} {c : Cc} {W : WX} {e : Expr} {a : Ag} {k : Nat} {p1 p2 p3 pos : Pos}
theorem x_revS (ha : PX X c W e a) : PM X c W (.Subscript e (.Slice none none (some (.UnaryOp .USub (.Constant (.int 1) k p1) p2)) p3) pos) (mCB revO [a]) :=
  pe_conv (pe_revL ha) fun σ H Q q => conv_rev σ H Q q
end
def tabL (f : Int → Int) (lo : Int) : Nat → List Int
  | 0 => []
  | n + 1 => f lo :: tabL f (lo + 1) n
theorem tabL_congr {f g : Int → Int} : ∀ {n : Nat} {lo : Int}, (∀ p, lo ≤ p → p < lo + n → f p = g p) → tabL f lo n = tabL g lo n
  | 0, _, _ => rfl
  | n + 1, lo, h => by
    rw [tabL, tabL, h lo (by omega) (by omega), tabL_congr (n := n) (lo := lo + 1) fun p h1 h2 => h p (by omega) (by omega)]
theorem sumL_tab_add (f g : Int → Int) : ∀ (n : Nat) (lo : Int), sumL (tabL (fun p => f p + g p) lo n) = sumL (tabL f lo n) + sumL (tabL g lo n)
  | 0, _ => rfl
  | n + 1, lo => by
    simp only [tabL, sumL]
    rw [sumL_tab_add f g n (lo + 1)]
    omega
theorem sumL_tab_zero {f : Int → Int} : ∀ {n : Nat} {lo : Int}, (∀ p, lo ≤ p → f p = 0) → sumL (tabL f lo n) = 0
  | 0, _, _ => rfl
  | n + 1, lo, h => by
    simp only [tabL, sumL]
    rw [h lo (by omega), sumL_tab_zero (n := n) (lo := lo + 1) fun p hp => h p (by omega)]
    rfl
def nAt (l : Int) (ys : List Int) (p : Int) : Int := if l ≤ p ∧ p < l + ys.length then ys.getD (p - l).toNat 0 else 0
theorem nAt_out {l : Int} {ys : List Int} {p : Int} (h : p < l ∨ l + ys.length ≤ p) : nAt l ys p = 0 := if_neg (by omega)
theorem nAt_in {l : Int} {ys : List Int} {k : Nat} {z : Int} (h : ys[k]? = some z) : nAt l ys (l + k) = z := by
  have hk := (List.getElem?_eq_some_iff.mp h).1
  unfold nAt
  rw [if_pos (by omega), show (l + (k : Int) - l).toNat = k by omega, List.getD_eq_getElem?_getD, h]
  rfl
theorem nAt_get {l : Int} {ys : List Int} {p : Int} (h1 : l ≤ p) (h2 : p < l + ys.length) : ys[(p - l).toNat]? = some (nAt l ys p) := by
  unfold nAt
  rw [if_pos ⟨h1, h2⟩, List.getD_eq_getElem?_getD, List.getElem?_eq_getElem (by omega)]
  rfl
theorem nAt_cons {l x : Int} {xs : List Int} {p : Int} : nAt l (x :: xs) p = (if p = l then x else 0) + nAt (l + 1) xs p := by
  by_cases h : p = l
  · subst h
    rw [if_pos rfl, nAt_out (l := p + 1) (by omega)]
    have := nAt_in (l := p) (ys := x :: xs) (k := 0) (z := x) rfl
    rw [show p + ((0 : Nat) : Int) = p by omega] at this
    rw [this]; omega
  · rw [if_neg h, Int.zero_add]
    by_cases h1 : l + 1 ≤ p ∧ p < l + 1 + xs.length
    · have g := nAt_get (ys := xs) h1.1 h1.2
      have := nAt_in (l := l) (ys := x :: xs) (k := (p - (l + 1)).toNat + 1) (by rw [List.getElem?_cons_succ]; exact g)
      rwa [show l + (((p - (l + 1)).toNat + 1 : Nat) : Int) = p by omega] at this
    · rw [nAt_out (by rw [List.length_cons]; omega), nAt_out (by omega)]
theorem nAt_nil {l p : Int} : nAt l [] p = 0 := nAt_out (by simp; omega)
theorem sum_nAt : ∀ (xs : List Int) (l lo : Int) (n : Nat), lo ≤ l → l + xs.length ≤ lo + n → sumL (tabL (nAt l xs) lo n) = sumL xs
  | [], l, lo, n, _, _ => by
    rw [show (tabL (nAt l []) lo n) = tabL (fun _ => 0) lo n from tabL_congr fun p _ _ => nAt_nil, sumL_tab_zero fun _ _ => rfl]
    rfl
  | x :: xs, l, lo, n, h1, h2 => by
    rw [List.length_cons] at h2
    rw [show tabL (nAt l (x :: xs)) lo n = tabL (fun p => (if p = l then x else 0) + nAt (l + 1) xs p) lo n from tabL_congr fun p _ _ => nAt_cons, sumL_tab_add, sum_nAt xs (l + 1) lo n (by omega) (by omega), sumL]
    have : ∀ (n : Nat) (lo : Int), lo ≤ l → l < lo + n → sumL (tabL (fun p => if p = l then x else 0) lo n) = x := by
      intro n
      induction n with
      | zero => intro lo a b; omega
      | succ n ih =>
        intro lo a b
        simp only [tabL, sumL]
        by_cases e : lo = l
        · rw [if_pos e, sumL_tab_zero fun p hp => if_neg (by omega)]; omega
        · rw [if_neg e, ih (lo + 1) (by omega) (by omega)]; omega
    rw [this n lo h1 (by omega)]
theorem nAt_rev {l : Int} {ys : List Int} {p : Int} : nAt (1 - l - ys.length) ys.reverse p = nAt l ys (-p) := by
  by_cases h : l ≤ -p ∧ -p < l + ys.length
  · have g := nAt_get (ys := ys) h.1 h.2
    have := nAt_in (l := 1 - l - ys.length) (ys := ys.reverse) (k := ys.length - 1 - (-p - l).toNat) (by rw [List.getElem?_reverse (by omega), show ys.length - 1 - (ys.length - 1 - (-p - l).toNat) = (-p - l).toNat by omega]; exact g)
    rwa [show 1 - l - (ys.length : Int) + ((ys.length - 1 - (-p - l).toNat : Nat) : Int) = p by omega] at this
  · rw [nAt_out (by rw [List.length_reverse]; omega), nAt_out (by omega)]
def cv : List Int → (Int → Int) → Int → Int
  | [], _, _ => 0
  | x :: xs, g, p => x * g p + cv xs g (p - 1)
structure Shd (f : Int → Int) (l : Int) (ys : List Int) : Prop where
  at_ : ∀ p, nAt l ys p = f p
  can : (ys = [] ∧ l = 0) ∨ (0 < ys.length ∧ f l ≠ 0 ∧ f (l + ys.length - 1) ≠ 0)
theorem Shd.congr {f g : Int → Int} {l : Int} {ys : List Int} (h : Shd f l ys) (e : ∀ p, f p = g p) : Shd g l ys := by
  have : f = g := funext e
  rw [← this]; exact h
theorem Shd.sum {f : Int → Int} {l : Int} {ys : List Int} (h : Shd f l ys) {lo : Int} {n : Nat} (h0 : ∀ p, p < lo ∨ lo + n ≤ p → f p = 0) : sumL ys = sumL (tabL f lo n) := by
  rcases h.can with ⟨e, e2⟩ | ⟨k, a, b⟩
  · have : ∀ p, f p = 0 := fun p => by rw [← h.at_, e, nAt_nil]
    rw [sumL_tab_zero fun p _ => this p, e]; rfl
  · have a1 : lo ≤ l := by
      refine Int.not_lt.mp fun c => a (h0 _ (.inl c))
    have a2 : l + ys.length - 1 < lo + n := by
      refine Int.not_le.mp fun c => b (h0 _ (.inr c))
    rw [← sum_nAt ys l lo n a1 (by omega), tabL_congr fun p _ _ => h.at_ p]
def tl (l : Int) (ys : List Int) : Int := if ys = [] then 0 else 1 - l - ys.length
theorem Shd.rev {f : Int → Int} {l : Int} {ys : List Int} (h : Shd f l ys) : Shd (fun p => f (-p)) (tl l ys) ys.reverse := by
  by_cases e : ys = []
  · subst e
    refine ⟨fun p => ?_, .inl ⟨rfl, by unfold tl; rw [if_pos rfl]⟩⟩
    show nAt _ [] p = f (-p)
    rw [nAt_nil, ← h.at_, nAt_nil]
  · rcases h.can with ⟨e1, _⟩ | ⟨n, a, b⟩
    · exact absurd e1 e
    · unfold tl
      rw [if_neg e]
      refine ⟨fun p => by rw [nAt_rev, h.at_], .inr ⟨by rw [List.length_reverse]; exact n, ?_, ?_⟩⟩
      · show f (-(1 - l - (ys.length : Int))) ≠ 0
        rw [show -(1 - l - (ys.length : Int)) = l + ys.length - 1 by omega]; exact b
      · rw [List.length_reverse]
        show f (-(1 - l - (ys.length : Int) + ys.length - 1)) ≠ 0
        rw [show -(1 - l - (ys.length : Int) + ys.length - 1) = l by omega]; exact a
end MM
namespace MM
open PySem L2
end MM
namespace MM
open PySem L2

def spD (K : PySem.W.Frag) (g : Str → Option Value) (n : Nat) (v0 : V) (mf : List O → R O) : Sp := fun vs H Q E => ∃ ws, vs = v0 :: ws ∧ spM K g n mf ws H Q E
section
variable {K : PySem.W.Frag} {c : Cc} {g : Str → Option Value} {W : WX} {ρ ρ' : Ev} {σ σ' : St} {F F' H H' : Hp} {E E' T T' S S1 S2 : Addr → Prop} {v : V} {o : O} {u : U} {D : Ends}
end
structure CalD (P : Program) (w : World) (K : PySem.W.Frag) (mg : Str → Option Value) (base : Heap) (x : Str) (ps : List Str) (k n : Nat) (y : Str) (mf : List O → R O) : Prop where
  ex : ∃ (f : Addr) (fd : FuncData) (f0 : Addr), mg x = some (.ref f) ∧ mg y = some (.ref f0) ∧ PySem.W.keepIn K (.ref f) = true ∧ Binds K fd ps [] ∧ FnOk P w K mg base (L2.CX P w) k f fd ps (spD K mg n (.ref f0) mf)
section
variable {P : Program} {w : World} {K : PySem.W.Frag} {mg : Str → Option Value} {base : Heap} {x y : Str} {N ps psy : List Str} {k j n : Nat} {st : Stmt}
theorem CalD.mono {mf : List O → R O} (C : CalD P w K mg base x ps j n y mf) (h : j ≤ k) : CalD P w K mg base x ps k n y mf :=
  let ⟨f, fd, f0, h1, h2, h3, h4, h5⟩ := C.ex
  ⟨f, fd, f0, h1, h2, h3, h4, h5.mono h⟩
end
section
variable {X : Cx} {c : Cc} {W : WX} {e e1 : Expr} {es : List Expr} {a : Ag} {as : List Ag} {pos p p1 : Pos} {x y : Str} {ps : List Str} {k n i : Nat} {mf : List O → R O} {f : Addr} {fd : FuncData} {sp : Sp} {CX : CXT} {B : St → XK} {t : TA}
end
end MM
namespace MM
open PySem L2

section
variable {K : PySem.W.Frag} {c : Cc} {g : Str → Option Value} {W : WX} {F H : Hp}
end
section
variable {X : Cx} {c : Cc} {W : WX} {e : Expr} {a : Ag} {apos pos p1 : Pos} {j : Nat} {sep : Str}
end
end MM
namespace MM
open PySem L2
end MM
namespace MM
open PySem L2
def isNn : U → Bool
  | .none => true
  | _ => false
def ltU (d e : U) : Option Bool := match d, e with
  | .int i, .int j => some (decide (i < j))
  | d, e => if PySem.W.alike d e = true ∧ isNn d = false ∧ d.depth ≤ 60 then some (PySem.W.dataLt d e) else none
theorem ltU_ok {d e : U} {k : Bool} (h : ltU d e = some k) : PySem.W.alike d e = true ∧ d ≠ .none ∧ d.depth ≤ 60 ∧ PySem.W.dataLt d e = k := by
  unfold ltU at h
  split at h
  · cases h
    exact ⟨rfl, nofun, by simp [PyData.depth], PySem.W.dataLt_int _ _⟩
  · split at h
    · rename_i z
      cases h
      refine ⟨z.1, ?_, z.2.2, rfl⟩
      intro q
      rw [q] at z
      exact absurd z.2.1 (by decide)
    · cases h
def geU (d e : U) : Option Bool := match d, e with
  | .int i, .int j => some (decide (i ≤ j))
  | d, e => if PySem.W.alike d e = true ∧ isNn d = false ∧ d.depth ≤ 60 then some (!PySem.W.dataLt e d) else none
theorem geU_ok {d e : U} {k : Bool} (h : geU d e = some k) : PySem.W.alike d e = true ∧ d ≠ .none ∧ d.depth ≤ 60 ∧ (!PySem.W.dataLt e d) = k := by
  unfold geU at h
  split at h
  · rename_i i j
    cases h
    refine ⟨rfl, nofun, by simp [PyData.depth], ?_⟩
    rw [PySem.W.dataLt_int]
    by_cases c : i ≤ j
    · rw [decide_eq_true c, decide_eq_false (by omega)]; rfl
    · rw [decide_eq_false c, decide_eq_true (by omega)]; rfl
  · split at h
    · rename_i z
      cases h
      refine ⟨z.1, ?_, z.2.2, rfl⟩
      intro q
      rw [q] at z
      exact absurd z.2.1 (by decide)
    · cases h
def fLtD (a b : O) (ρ : Ev) : R O := match viewO a with
  | some d => match viewO b with
    | some e => match ltU d e with
      | some k => .ok (.sh (.bool k)) ρ
      | none => .bad
    | none => .bad
  | none => .bad
def fLeD (a b : O) (ρ : Ev) : R O := match viewO a with
  | some d => match viewO b with
    | some e => match geU d e with
      | some k => .ok (.sh (.bool k)) ρ
      | none => .bad
    | none => .bad
  | none => .bad
section
variable {X : Cx} {K : PySem.W.Frag} {c : Cc} {g : Str → Option Value} {W : WX}
def rLtD (K : PySem.W.Frag) : R2 := fun x y H Q => ∃ d e, Dq K H x d ∧ Dq K H y e ∧ PySem.W.alike d e = true ∧ d ≠ .none ∧ d.depth ≤ 60 ∧ Q (.bl (PySem.W.dataLt d e)) H
def rLeD (K : PySem.W.Frag) : R2 := fun x y H Q => ∃ d e, Dq K H x d ∧ Dq K H y e ∧ PySem.W.alike d e = true ∧ d ≠ .none ∧ d.depth ≤ 60 ∧ Q (.bl (!PySem.W.dataLt e d)) H
theorem op_ltD (hu : X.A.units + 64 < cLine) : OpR X (compareOp .Lt) (rLtD X.K) := by
  intro pins s σ H x y v u Q I rx ry h
  obtain ⟨d, e, hd, he, al, nn, hz, q⟩ := h
  obtain ⟨as, r1⟩ := Dp.reads I d x v (Dq.dp _ _ hd) rx
  obtain ⟨bs, r2⟩ := Dp.reads I e y u (Dq.dp _ _ he) ry
  exact PySem.W.lt_data r1 r2 al nn (by omega) ⟨.bl _, H, I, rfl, q⟩
theorem op_leD (hu : X.A.units + 64 < cLine) : OpR X (compareOp .LtE) (rLeD X.K) := by
  intro pins s σ H x y v u Q I rx ry h
  obtain ⟨d, e, hd, he, al, nn, hz, q⟩ := h
  obtain ⟨as, r1⟩ := Dp.reads I d x v (Dq.dp _ _ hd) rx
  obtain ⟨bs, r2⟩ := Dp.reads I e y u (Dq.dp _ _ he) ry
  exact PySem.W.le_data r1 r2 al nn (by omega) ⟨.bl _, H, I, rfl, q⟩
theorem sv_ltD : Serves K c g W (rLtD K) fLtD := by
  intro ρ σ F H E T Sa Sb x y oa ob Q M ra rb _ _ h
  unfold fLtD at h
  cases e1 : viewO oa with
  | none => rw [e1] at h; exact h.elim
  | some d =>
    rw [e1] at h
    simp only at h
    cases e2 : viewO ob with
    | none => rw [e2] at h; exact h.elim
    | some e =>
      rw [e2] at h
      simp only at h
      cases e3 : ltU d e with
      | none => rw [e3] at h; exact h.elim
      | some k =>
        rw [e3] at h
        obtain ⟨z1, z2, z3, z4⟩ := ltU_ok e3
        exact ⟨d, e, view_ok M ra e1, view_ok M rb e2, z1, z2, z3, by rw [z4]; exact h.sc M (.bl _)⟩
theorem sv_leD : Serves K c g W (rLeD K) fLeD := by
  intro ρ σ F H E T Sa Sb x y oa ob Q M ra rb _ _ h
  unfold fLeD at h
  cases e1 : viewO oa with
  | none => rw [e1] at h; exact h.elim
  | some d =>
    rw [e1] at h
    simp only at h
    cases e2 : viewO ob with
    | none => rw [e2] at h; exact h.elim
    | some e =>
      rw [e2] at h
      simp only at h
      cases e3 : geU d e with
      | none => rw [e3] at h; exact h.elim
      | some k =>
        rw [e3] at h
        obtain ⟨z1, z2, z3, z4⟩ := geU_ok e3
        exact ⟨d, e, view_ok M ra e1, view_ok M rb e2, z1, z2, z3, by rw [z4]; exact h.sc M (.bl _)⟩
end
end MM
namespace MM
open PySem L2
section
variable {K : PySem.W.Frag} {c : Cc} {g : Str → Option Value} {W : WX} {F H : Hp}
end
section
variable {X : Cx} {c : Cc} {W : WX} {e o : Expr} {a : Ag} {apos pos p1 : Pos} {j : Nat} {sep : Str}
end
end MM
namespace MM
open PySem L2
section
variable {K : PySem.W.Frag} {c : Cc} {g : Str → Option Value} {W : WX} {F H : Hp} {E T : Addr → Prop}
def firstI (e : U) : List U → Nat → Option Nat
  | [], _ => none
  | z :: zs, k => if PyData.eqv z e = true then some k else firstI e zs (k + 1)
theorem firstI_ok {e : U} : ∀ {ds : List U} {k j : Nat}, firstI e ds k = some j → k ≤ j ∧ (∃ z, ds[j - k]? = some z ∧ PyData.eqv z e = true) ∧ ∀ (m : Nat) (z' : U), m < j - k → ds[m]? = some z' → PyData.eqv z' e = false
  | [], _, _, h => by cases h
  | z :: zs, k, j, h => by
    unfold firstI at h
    split at h
    · rename_i hz
      cases h
      refine ⟨Nat.le_refl _, ⟨z, by rw [Nat.sub_self]; rfl, hz⟩, fun m z' hm => absurd hm (by omega)⟩
    · rename_i hz
      obtain ⟨h1, ⟨z2, h2, h3⟩, h4⟩ := firstI_ok h
      have e1 : j - k = (j - (k + 1)) + 1 := by omega
      refine ⟨by omega, ⟨z2, by rw [e1, List.getElem?_cons_succ]; exact h2, h3⟩, fun m z' hm hz' => ?_⟩
      cases m with
      | zero =>
        simp only [List.getElem?_cons_zero, Option.some.injEq] at hz'
        subst hz'
        simpa using hz
      | succ m => exact h4 m z' (by omega) (by simpa using hz')
def idxR (d e : Option U) (ρ : Ev) : R O := match d with
  | some (.list ds) => match e with
    | some e => if SeqAt.shaped (.list ds) = true ∧ SeqAt.shaped e = true then (match firstI e ds 0 with
      | some j => .ok (.sh (.int (j : Nat))) ρ
      | none => .bad) else .bad
    | none => .bad
  | _ => .bad
def isLO : O → Bool
  | .ol _ => true
  | .sh (.list _) => true
  | _ => false
def idx2 (i : Nat) (d : Dn) (ρ1 : Ev) : R O := match ρ1[i]? with
  | some (some o) => idxR (viewO o) ((oOf ρ1 d).bind viewO) ρ1
  | _ => .bad
def mIdxOf (i : Nat) (b : Ag) : ME := fun ρ => match ρ[i]? with
  | some (some o) => if isLO o = true then (match evA b ρ with
    | .ok d ρ1 => idx2 i d ρ1
    | .exc cl r => .exc cl r
    | .bad => .bad) else .bad
  | _ => .bad
theorem isLO_ok {v : V} {o : O} {S : Addr → Prop} (hF : Same F H) (r : RpO K F H v o S) (e : isLO o = true) : ∃ p vs, v = .ref p ∧ Rd H p (.lst vs) := by
  cases o with
  | sh u =>
    cases u with
    | list us =>
      cases r with
      | sh d => cases d with
        | lst h a => exact ⟨_, _, rfl, Rd.mono hF (.inl h)⟩
    | _ => cases e
  | ol os =>
    cases r with
    | ol h _ _ _ _ => exact ⟨_, _, rfl, .inl h⟩
  | ot os => cases e
  | od os => cases e
  | nd os => cases e
  | nf os => cases e
  | ins _ _ => cases e
  | fi _ _ => cases e
  | dl _ _ => cases e
  | df _ => cases e
  | sc os => cases e
theorem conv_idxOf {i : Nat} {b : Ag} (σ : St) (H : Hp) (Q : VK) (h : tM K c g W (mIdxOf i b) σ H Q) : tBM K "list" (rIndexD K) (tVar i) (tMA K c g W [b]) σ H Q := by
  obtain ⟨ρ, F, E, T, M, h⟩ := h
  unfold mIdxOf at h
  cases q : ρ[i]? with
  | none => rw [q] at h; exact h.elim
  | some x =>
    cases x with
    | none => rw [q] at h; exact h.elim
    | some o0 =>
      rw [q] at h
      simp only at h
      split at h
      · rename_i hl
        obtain ⟨v0, S0, hv, r0, _⟩ := M.env.get q
        obtain ⟨p, vs0, rfl, hp0⟩ := isLO_ok M.ff r0 hl
        refine ⟨_, hv, .inl ⟨rfl, _, .inl hp0⟩, ρ, F, E, T, M, ?_⟩
        cases e : evA b ρ with
        | exc cl ρ1 =>
          rw [e] at h
          have ev : evAs [b] ρ = .exc cl ρ1 := by simp only [evAs, e]
          rw [ev]
          exact h
        | bad => rw [e] at h; exact h.elim
        | ok d ρ1 =>
          rw [e] at h
          simp only at h
          have ev : evAs [b] ρ = .ok [d] ρ1 := by simp only [evAs, e]
          rw [ev]
          intro ys F1 H1 E1 S2 f1 k1 M1 d1 r1
          cases r1 with
          | cons r rn s1 s2 dj =>
            cases rn
            unfold idx2 at h
            cases q1 : ρ1[i]? with
            | none => rw [q1] at h; exact h.elim
            | some x1 =>
              cases x1 with
              | none => rw [q1] at h; exact h.elim
              | some o1 =>
                rw [q1] at h
                simp only at h
                obtain ⟨v1, S1', hv1, rr, _⟩ := M1.env.get q1
                rw [hv] at hv1
                cases hv1
                cases e4 : oOf ρ1 d with
                | none =>
                  rw [e4] at h
                  unfold idxR at h
                  split at h
                  · exact h.elim
                  · exact h.elim
                | some oy =>
                  rw [e4] at h
                  obtain ⟨Sy, ry, _⟩ := r.rp M1 (fun a x => .inr (s1 a x)) e4
                  unfold idxR at h
                  split at h
                  · rename_i ds e5
                    split at h
                    · rename_i ey e6
                      split at h
                      · rename_i hsh
                        split at h
                        · rename_i j e7
                          obtain ⟨_, ⟨z, z1, z2⟩, z3⟩ := firstI_ok e7
                          have dl := Dq.dp _ _ (view_ok M1 rr e5)
                          have dy := Dq.dp _ _ (view_ok M1 ry e6)
                          exact ⟨p, _, ey, ds, j, z, rfl, rfl, dl, dy, hsh.1, hsh.2, z1, z2, z3, Got.sc (Got.weak h f1 k1 (T1 := fun a => T a ∨ S2 a) (fun a x => .inl x) relO_mono) M1 (.int _)⟩
                        · exact h.elim
                      · exact h.elim
                    · exact h.elim
                  · exact h.elim
      · exact h.elim
end
theorem u65 {k : Nat} {A : Around} (r : Room k A) : A.units + 65 < cLine := by have := r.un; omega
section
variable {X : Cx} {c : Cc} {W : WX} {e e1 e2 : Expr} {m : ME} {b : Ag} {pos p apos : Pos}
theorem x_indexOf (i : Nat) (hu : X.A.units + 65 < cLine) (ho : PE X e1 (tVar i)) (ha : PX X c W e2 b)
    (hbase : attributeBase e1 "index" X.env (eval e1 X.env) = eval e1 X.env := by rfl)
    (hfew : ((backTo pos (starEach [e2] X.env)).all (fun x => !x.1) && (backToKw pos (keywordEach [] X.env)).all (fun x => x.1.isSome)
      && decide (([e2] : List Expr).length + ([] : List Keyword).length + (if ([] : List Keyword).isEmpty then 0 else 1) < 30)) = true := by rfl)
    (hline : (apos.endLine == pos.line) = true := by rfl) (hs : starEach [e2] X.env = (false, eval e2 X.env) :: starEach [] X.env := by rfl) (hplain : (backTo pos (starEach [] X.env)).any (·.1) = false := by rfl) :
    PM X c W (.Call (.Attribute e1 "index" apos) [e2] [] pos) (mIdxOf i b) :=
  pe_conv (pe_bm PySem.F.plainAttrs_list PySem.F.slot_list_index PySem.F.type_list_index (mt_indexD hu) ho (xa_cons ha xa_nil (hs := hs)) hbase hfew hline hs hplain) fun σ H Q q => conv_idxOf σ H Q q
end
section
variable {X : Cx} {c : Cc} {W : WX} {elt tg iter e : Expr} {ifs : List Expr} {scope : Scope} {own : List (Str × Nat)} {on : List Nat} {pos spos py : Pos} {t : Tg} {src : Ev → R (List U)} {test : Ev → R Bool} {m : ME} {y : Str} {i : Nat}
end
end MM
namespace MM
open PySem L2
def fExt (os xs : List O) : Option (O × List O) := match xs with
  | [.ol ps] => if os.length + ps.length ≤ 16777216 then some (.sh .none, os ++ ps) else none
  | _ => none
section
variable {K : PySem.W.Frag} {c : Cc} {g : Str → Option Value} {W : WX} {F H : Hp}
theorem RpOs.app : ∀ {vs ws : List V} {os ps : List O} {A B : Addr → Prop}, RpOs K F H vs os A → RpOs K F H ws ps B → (∀ a, A a → B a → False) → RpOs K F H (vs ++ ws) (os ++ ps) (fun a => A a ∨ B a)
  | [], _, [], _, _, _, _, r2, _ => r2.mono fun a x => .inr x
  | v :: vs, _, o :: os, _, A, B, .cons (S1 := A1) (S2 := A2) r rs s1 s2 d, r2, dj =>
    .cons (S1 := A1) (S2 := fun a => A2 a ∨ B a) r (RpOs.app rs r2 fun a x y => dj a (s2 a x) y) (fun a x => .inl (s1 a x)) (fun a x => x.elim (fun z => .inl (s2 a z)) .inr) (fun a x y => y.elim (fun z => d a x z) fun z => dj a (s1 a x) z)
theorem sv_ext : ServesM K rExtend fExt := by
  intro F H p vs ys os xs S1 S2 o os' Q hp n1 n2 rs rx dj e k
  unfold fExt at e
  split at e
  · rename_i ps
    split at e
    · rename_i hz
      cases e
      cases rx with
      | cons r rt s1 s2 dd =>
        cases rt
        rename_i y A1 A2
        cases r with
        | ol h q rr sub np =>
          rename_i b zs S3
          have hS : ∀ a, S3 a → S2 a := fun a x => s1 a (sub a x)
          refine ⟨p, b, vs, zs, rfl, rfl, hp, h, by rw [rs.len, rr.len, line_eq]; exact hz, k .non _ ⟨Em, fun a => S1 a ∨ S3 a, .sh .non, ?_, fun _ x => x.elim, fun a x => x.imp id (hS a), fun _ x _ => x⟩⟩
          exact (rs.frame (Same.refl F) (upd_frame n1)).app (rr.frame (Same.refl F) (upd_frame fun z => n2 (hS _ z))) fun a x y => dj a x (hS a y)
    · cases e
  · cases e
end
section
variable {X : Cx} {c : Cc} {W : WX} {e e1 e2 : Expr} {a : Ag} {as : List Ag} {p p2 q pos apos : Pos}
theorem x_ext (i : Nat) (ho : PE X e1 (tVar i)) (ha : PAM X c W [e2] as)
    (hbase : attributeBase e1 "extend" X.env (eval e1 X.env) = eval e1 X.env := by rfl)
    (hfew : ((backTo pos (starEach [e2] X.env)).all (fun x => !x.1) && (backToKw pos (keywordEach [] X.env)).all (fun x => x.1.isSome)
      && decide (([e2] : List Expr).length + ([] : List Keyword).length + (if ([] : List Keyword).isEmpty then 0 else 1) < 30)) = true := by rfl)
    (hline : (apos.endLine == pos.line) = true := by rfl) (hs : starEach [e2] X.env = (false, eval e2 X.env) :: starEach [] X.env := by rfl) (hplain : (backTo pos (starEach [] X.env)).any (·.1) = false := by rfl) :
    PM X c W (.Call (.Attribute e1 "extend" apos) [e2] [] pos) (mMth i fExt as) :=
  pe_conv (pe_bm PySem.F.plainAttrs_list PySem.F.slot_list_extend PySem.F.type_list_extend mt_extend ho ha hbase hfew hline hs hplain) fun σ H Q q => conv_mth sv_ext σ H Q q
end
end MM
namespace MM
open PySem L2
def KeyH (K : PySem.W.Frag) (H : Hp) (b : Addr) (k : NestedKey) : Prop := ∃ u, Dq K H (.ref b) u ∧ keyB u = true ∧ nkU u = k
def KeysH (K : PySem.W.Frag) (H : Hp) (L : List NE) : Prop := ∀ x ∈ L, KeyH K H x.2.1 x.1
mutual
theorem nest_of {X : Cx} {pins : List (Addr × Obj)} {σ : St} {H : Hp} {s : Shared} (I : Inv X pins σ H s) : ∀ (u : U) (v : V) (val : Value), Dq X.K H v u → okU u = true → RelV v val → NestedIs s.heap (nkU u) val
  | .int i, v, val, d, _, r => by
    cases d
    obtain ⟨t, rfl⟩ := r
    exact .int _ _
  | .tuple us, v, val, d, h, r => by
    cases d with
    | tup hs a =>
      cases r
      obtain ⟨its, rv, ⟨o, e, c, n, hd⟩, _⟩ := I.tuple hs
      refine .tup e c hd ?_
      have := nests_of I us _ its a h rv
      simpa using this
  | .none, _, _, _, h, _ => by cases h
  | .bool _, _, _, _, h, _ => by cases h
  | .str _, _, _, _, h, _ => by cases h
  | .list _, _, _, _, h, _ => by cases h
  | .dict _, _, _, _, h, _ => by cases h
theorem nests_of {X : Cx} {pins : List (Addr × Obj)} {σ : St} {H : Hp} {s : Shared} (I : Inv X pins σ H s) : ∀ (us : List U) (vs : List V) (vals : List Value), DqAll X.K H vs us → okUs us = true → Vals vs vals → NestedAll s.heap (nkUs us) vals
  | [], vs, vals, d, _, r => by
    cases d
    cases r
    exact .nil
  | u :: us, vs, vals, d, h, r => by
    obtain ⟨h1, h2⟩ := Bool.and_eq_true_iff.mp (show (okU u && okUs us) = true from h)
    cases d with
    | cons d1 d2 =>
      cases r with
      | cons r1 r2 => exact .cons (nest_of I u _ _ d1 h1 r1) (nests_of I us _ _ d2 h2 r2)
end
mutual
theorem nTx_ok : ∀ u : U, okU u = true → nTx (nkU u) = true
  | .int _, _ => rfl
  | .tuple us, h => nTxs_ok us h
  | .none, h => by cases h
  | .bool _, h => by cases h
  | .str _, h => by cases h
  | .list _, h => by cases h
  | .dict _, h => by cases h
theorem nTxs_ok : ∀ us : List U, okUs us = true → nTxs (nkUs us) = true
  | [], _ => rfl
  | u :: us, h => by
    obtain ⟨h1, h2⟩ := Bool.and_eq_true_iff.mp (show (okU u && okUs us) = true from h)
    show (nTx (nkU u) && nTxs (nkUs us)) = true
    rw [nTx_ok u h1, nTxs_ok us h2]
    rfl
end
theorem keyB_e {u : U} (h : keyB u = true) : okU u = true ∧ (nkU u).depth ≤ 8 ∧ ∃ us, u = .tuple us := by
  unfold keyB at h
  simp only [Bool.and_eq_true, decide_eq_true_eq] at h
  refine ⟨h.2.1, h.2.2, ?_⟩
  cases u with
  | tuple us => exact ⟨us, rfl⟩
  | _ => cases h.1
section
variable {X : Cx} {pins : List (Addr × Obj)} {σ : St} {H : Hp} {s : Shared} {a b : Addr} {L : List NE} {k : NestedKey} {v : V}
theorem KeyH.is (I : Inv X pins σ H s) (h : KeyH X.K H b k) : (nestedKind X.prog X.w).is s.heap k b ∧ nTx k = true := by
  obtain ⟨u, d, kb, rfl⟩ := h
  obtain ⟨h1, h2, us, rfl⟩ := keyB_e kb
  exact ⟨⟨nest_of I _ _ _ d h1 rfl, h2⟩, nTx_ok _ h1⟩
theorem nd_of {P : Program} {w : World} {h : Heap} (ok : HOk P w H h) (e : Rd H a (NDo a L)) : NDp a L h := (show ObjOk P w H h a (NDo a L) from e.ok ok).1
def PV : NE → NestedKey × Addr × Value → Prop := fun p q => p.1 = q.1 ∧ p.2.1 = q.2.1 ∧ RelV p.2.2 q.2.2
theorem nd_dict (I : Inv X pins σ H s) (ks : KeysH X.K H L) (z : NDp a L s.heap) : ∃ xs, Paired PV L xs ∧ s.heap.DictOfH (nestedKind X.prog X.w) a xs := by
  obtain ⟨_, _, nd, xs, r, o, es, ep, h1, h2, h3, h4⟩ := z
  have hk : ∀ {L : List NE} {xs : List (NestedKey × Addr × Value)}, KeysH X.K H L → Paired PV L xs → (∀ x ∈ xs, (nestedKind X.prog X.w).is s.heap x.1 x.2.1 ∧ nTx x.1 = true) ∧ xs.map (·.1) = L.map (·.1) := by
    intro L xs ks r
    induction r with
    | nil => exact ⟨fun x hx => (List.not_mem_nil hx).elim, rfl⟩
    | @cons p q ps qs hq t ih =>
      obtain ⟨i1, i2⟩ := ih fun x hx => ks x (List.mem_cons_of_mem _ hx)
      refine ⟨fun x hx => ?_, by rw [List.map_cons, List.map_cons, i2, hq.1]⟩
      rcases List.mem_cons.mp hx with e | hx
      · subst e
        have := (ks p List.mem_cons_self).is I
        rw [hq.1, hq.2.1] at this
        exact this
      · exact i1 x hx
  obtain ⟨k1, k2⟩ := hk ks r
  refine ⟨xs, r, o, es, ep, h1, h2, h3, ?_, fun x hx => (k1 x hx).1, by rw [k2]; exact nd⟩
  rw [h4]
  refine List.map_congr_left fun x hx => ?_
  show (⟨hN x.1, _, _⟩ : DictEntry) = ⟨x.1.hash X.w, _, _⟩
  rw [hN_e _ (k1 x hx).2]
def atV (L : List NE) (k : NestedKey) : Option V := (L.find? fun x => decide (x.1 = k)).map (·.2.2)
def putV (k : NestedKey) (v : V) (x : NE) : NE := if x.1 = k then (x.1, x.2.1, v) else x
def stoV (L : List NE) (k : NestedKey) (b : Addr) (v : V) : List NE := if (atV L k).isSome then L.map (putV k v) else L ++ [(k, b, v)]
theorem PV.val {xs : List (NestedKey × Addr × Value)} (r : Paired PV L xs) (k : NestedKey) : RelO (atV L k) ((atKey xs k).map (·.2)) := by
  induction r with
  | nil => exact True.intro
  | @cons p q ps qs h t ih =>
    obtain ⟨h1, _, h2⟩ := h
    by_cases e : p.1 = k
    · have e' : q.1 = k := h1.symm.trans e
      have b1 : atV (p :: ps) k = some p.2.2 := by simp [atV, List.find?_cons, e]
      have b : atKey (q :: qs) k = some q.2 := by simp [atKey, List.find?_cons, e']
      rw [b1, b]; exact h2
    · have e' : ¬ q.1 = k := fun z => e (h1.trans z)
      have b1 : atV (p :: ps) k = atV ps k := by simp [atV, List.find?_cons, e]
      have b : atKey (q :: qs) k = atKey qs k := by simp [atKey, List.find?_cons, e']
      rw [b1, b]; exact ih
theorem PV.put {xs : List (NestedKey × Addr × Value)} (r : Paired PV L xs) (k : NestedKey) (b : Addr) {u : Value} (ru : RelV v u) : Paired PV (stoV L k b v) (storedH xs k b u) := by
  have q := (PV.val r k).isSome_eq
  rw [Option.isSome_map] at q
  unfold stoV storedH
  rw [q]
  by_cases z : (atKey xs k).isSome = true
  · rw [if_pos z, if_pos z]
    clear q z
    induction r with
    | nil => exact .nil
    | @cons p q ps qs h t ih =>
      rw [List.map_cons, List.map_cons]
      refine .cons ?_ ih
      obtain ⟨h1, h2, h3⟩ := h
      unfold putV putAt
      by_cases e : p.1 = k
      · rw [if_pos e, if_pos (h1.symm.trans e)]; exact ⟨h1, h2, ru⟩
      · rw [if_neg e, if_neg (fun z => e (h1.trans z))]; exact ⟨h1, h2, h3⟩
  · rw [if_neg z, if_neg z]; exact Paired.snoc r ⟨rfl, rfl, ru⟩
theorem stoV_len : (stoV L k b v).length ≤ L.length + 1 := by
  unfold stoV
  split
  · rw [List.length_map]; omega
  · rw [List.length_append, List.length_singleton]; exact Nat.le_refl _
theorem putV_key {x : NE} : (putV k v x).1 = x.1 ∧ (putV k v x).2.1 = x.2.1 := by
  unfold putV
  split <;> exact ⟨rfl, rfl⟩
theorem stoV_keys {K : PySem.W.Frag} (h : KeysH K H L) (hb : KeyH K H b k) : KeysH K H (stoV L k b v) := fun x hx => by
  unfold stoV at hx
  split at hx
  · obtain ⟨y, hy, rfl⟩ := List.mem_map.mp hx
    rw [putV_key.1, putV_key.2]
    exact h y hy
  · rcases List.mem_append.mp hx with hx | hx
    · exact h x hx
    · rw [List.mem_singleton.mp hx]; exact hb
end
section
variable {X : Cx} {pins : List (Addr × Obj)} {σ : St} {H : Hp} {s : Shared} {a b : Addr} {L : List NE} {k : NestedKey} {v : V}
theorem room_n {A : Around} {P : Program} {w : World} (hu : A.units + 64 < cLine) : (nestedKind P w).room A.in1 := by
  show A.units + 1 + 8 < cLine
  omega
theorem nd_new {H' : Hp} {h' : Heap} {xs : List (NestedKey × Addr × Value)} (hl : L.length ≤ sizeLine) (ha : (a == sysModules) = false) (r : Paired PV L xs) (nt : ∀ x ∈ L, nTx x.1 = true) (dd : h'.DictOfH (nestedKind X.prog X.w) a xs) : ObjOk X.prog X.w H' h' a (NDo a L) := by
  obtain ⟨o, es, ep, h1, h2, h3, h4, _, h6⟩ := dd
  have hk : ∀ {L : List NE} {xs : List (NestedKey × Addr × Value)}, Paired PV L xs → (∀ x ∈ L, nTx x.1 = true) → (∀ x ∈ xs, nTx x.1 = true) ∧ xs.map (·.1) = L.map (·.1) := by
    intro L xs r
    induction r with
    | nil => exact fun _ => ⟨fun x hx => (List.not_mem_nil hx).elim, rfl⟩
    | @cons p q ps qs hq t ih =>
      intro nt
      obtain ⟨i1, i2⟩ := ih fun x hx => nt x (List.mem_cons_of_mem _ hx)
      refine ⟨fun x hx => ?_, by rw [List.map_cons, List.map_cons, i2, hq.1]⟩
      rcases List.mem_cons.mp hx with e | hx
      · subst e
        rw [← hq.1]
        exact nt p List.mem_cons_self
      · exact i1 x hx
  obtain ⟨k1, k2⟩ := hk r nt
  refine ⟨⟨hl, ha, by rw [← k2]; exact h6, xs, r, o, es, ep, h1, h2, h3, ?_⟩, ⟨o, h1⟩, fun g1 g2 ⟨z1, z2, z3, ys, z4, o', es', ep', z5, z6⟩ hg => ⟨z1, z2, z3, ys, z4, o', es', ep', hg _ z5, z6⟩⟩
  rw [h4]
  refine List.map_congr_left fun x hx => ?_
  show (⟨x.1.hash X.w, _, _⟩ : DictEntry) = ⟨hN x.1, _, _⟩
  rw [hN_e _ (k1 x hx)]
theorem KeysH.nt (I : Inv X pins σ H s) (ks : KeysH X.K H L) : ∀ x ∈ L, nTx x.1 = true := fun x hx => ((ks x hx).is I).2
def rNSet (K : PySem.W.Frag) : TSet := fun o i v H Q => ∃ a L b k, o = .ref a ∧ i = .ref b ∧ H a = some (NDo a L) ∧ KeysH K H L ∧ KeyH K H b k ∧ L.length < sizeLine ∧ Q (upd H a (NDo a (stoV L k b v)))
theorem set_nd (hu : X.A.units + 64 < cLine) : PSet X (rNSet X.K) := by
  intro pins s σ H o i v ov iv u Q I ro ri rv h
  obtain ⟨a, L, b, k, rfl, rfl, hd, ks, kb, hl, q⟩ := h
  cases ro
  cases ri
  have z := nd_of I.hok (.inl hd)
  obtain ⟨xs, r, dd⟩ := nd_dict I ks z
  have nt : ∀ x ∈ stoV L k b v, nTx x.1 = true := fun x hx => ((stoV_keys ks kb x hx).is I).2
  have hl2 := stoV_len (L := L) (k := k) (b := b) (v := v)
  refine wpAny_setItem_heap (hsz := by rw [← Paired.length r]; omega) (room_n hu) (kb.is I).1 dd fun h' dd' hs => ?_
  have he : ∃ q, h'.get? a = some q := let ⟨q, _, _, hq, _⟩ := dd'; ⟨q, hq⟩
  exact ⟨_, d_write I (by rw [hd]; exact True.intro) hs he (nd_new (by omega) z.2.1 (PV.put r k b rv) nt dd'), q⟩
def tNNew : TE := fun _ H Q => ∀ p, H p = none → Q (.ref p) (upd H p (NDo p []))
theorem nd_empty {H : Hp} (h : Heap) (hb : sysModules < h.objs.size) : ObjOk X.prog X.w H (h.push { cls := .type "dict", data := .dict #[] }) h.objs.size (NDo h.objs.size []) :=
  nd_new (Nat.zero_le _) (beq_eq_false_iff_ne.mpr (Ne.symm (Nat.ne_of_lt hb))) .nil (fun x hx => (List.not_mem_nil hx).elim) (Heap.DictOfH.new h)
theorem pe_nnew {pos : Pos} : PE X (.Dict [] [] pos) tNNew := ⟨fun pins s σ H Q I h =>
  wpAny_Dict_empty ⟨.ref s.heap.objs.size, _, I.laid (a := s.heap.objs.size) (o := NDo s.heap.objs.size []) (t' := s.toks) (fun _ _ q => Heap.get?_push_of_some _ q) (Nat.le_refl _) (nd_empty s.heap I.big), rfl, h _ (I.hok.fresh (Nat.le_refl _))⟩⟩
end
end MM
namespace MM
open PySem L2
section
variable {X : Cx} {pins : List (Addr × Obj)} {σ : St} {H : Hp} {s : Shared} {d : Addr} {L : List NE} {o : Obj}
end
end MM
namespace MM
open PySem L2
section
variable {X : Cx}
end
def lkN : List (U × U) → NestedKey → Option U
  | [], _ => none
  | q :: r, n => if NestedKey.beq (nkU q.1) n = true then some q.2 else lkN r n
def putN (kvs : List (U × U)) (u v : U) : List (U × U) := if (lkN kvs (nkU u)).isSome then kvs.map (fun q => if NestedKey.beq (nkU q.1) (nkU u) = true then (q.1, v) else q) else kvs ++ [(u, v)]
theorem beq_iff {a b : NestedKey} : NestedKey.beq a b = true ↔ a = b := by
  rw [← NestedKey.decide_eq, decide_eq_true_iff]
section
variable {K : PySem.W.Frag} {F F' H : Hp} {L : List NE} {kvs : List (U × U)}
theorem NdR.len (h : NdR K F L kvs) : L.length = kvs.length := by
  induction h with
  | nil => rfl
  | cons _ _ _ _ ih => rw [List.length_cons, List.length_cons, ih]
def LkR (K : PySem.W.Frag) (F : Hp) : Option V → Option U → Prop
  | none, none => True
  | some v, some u => Dq K F v u
  | _, _ => False
theorem LkR.isSome {x : Option V} {y : Option U} (h : LkR K F x y) : x.isSome = y.isSome := by
  cases x <;> cases y <;> first | rfl | exact h.elim
theorem NdR.at (h : NdR K F L kvs) (n : NestedKey) : LkR K F (atV L n) (lkN kvs n) := by
  induction h with
  | nil => exact True.intro
  | @cons m b v L k u kvs e _ d2 _ ih =>
    subst e
    by_cases z : nkU k = n
    · have z2 : lkN ((k, u) :: kvs) n = some u := by unfold lkN; rw [if_pos (beq_iff.mpr z)]
      have z1 : atV ((nkU k, b, v) :: L) n = some v := by simp [atV, List.find?_cons, z]
      rw [z2, z1]; exact d2
    · have z2 : lkN ((k, u) :: kvs) n = lkN kvs n := by rw [lkN, if_neg fun w => z (beq_iff.mp w)]
      have z1 : atV ((nkU k, b, v) :: L) n = atV L n := by simp [atV, List.find?_cons, z]
      rw [z2, z1]; exact ih
theorem NdR.append {L2 : List NE} {kvs2 : List (U × U)} (h : NdR K F L kvs) (h2 : NdR K F L2 kvs2) : NdR K F (L ++ L2) (kvs ++ kvs2) := by
  induction h with
  | nil => exact h2
  | cons e d1 d2 _ ih => exact .cons e d1 d2 ih
theorem NdR.put {b : Addr} {u z : U} {v : V} (h : NdR K F L kvs) (db : Dq K F (.ref b) u) (dv : Dq K F v z) : NdR K F (stoV L (nkU u) b v) (putN kvs u z) := by
  have q := (h.at (nkU u)).isSome
  unfold stoV putN
  rw [q]
  split
  · rename_i q0
    clear q q0
    induction h with
    | nil => exact .nil
    | @cons m b0 v0 L k w kvs e d1 d2 _ ih =>
      subst e
      rw [List.map_cons, List.map_cons]
      by_cases z1 : nkU k = nkU u
      · have e1 : putV (nkU u) v (nkU k, b0, v0) = (nkU k, b0, v) := if_pos z1
        rw [e1, if_pos (beq_iff.mpr z1)]
        exact .cons rfl d1 dv ih
      · have e1 : putV (nkU u) v (nkU k, b0, v0) = (nkU k, b0, v0) := if_neg z1
        rw [e1, if_neg fun w => z1 (beq_iff.mp w)]
        exact .cons rfl d1 d2 ih
  · exact h.append (.cons rfl db dv .nil)
theorem ndOk_put {u v : U} (h : ndOk kvs = true) (hu : keyB u = true) : ndOk (putN kvs u v) = true := by
  unfold ndOk at h ⊢
  rw [List.all_eq_true] at h ⊢
  intro q hq
  unfold putN at hq
  split at hq
  · obtain ⟨q', h1, rfl⟩ := List.mem_map.mp hq
    have := h q' h1
    split <;> exact this
  · rcases List.mem_append.mp hq with hq | hq
    · exact h q hq
    · rw [List.mem_singleton.mp hq]
      exact hu
theorem NdR.keys (f : Same F H) (h : NdR K F L kvs) (ok : ndOk kvs = true) : KeysH K H L := by
  induction h with
  | nil => exact fun x hx => (List.not_mem_nil hx).elim
  | @cons m b v L k u kvs e d1 _ _ ih =>
    obtain ⟨h1, h2⟩ := Bool.and_eq_true_iff.mp (show (keyB k && ndOk kvs) = true from ok)
    intro x hx
    rcases List.mem_cons.mp hx with rfl | hx
    · exact ⟨k, Dq.mono f _ _ d1, h1, e.symm⟩
    · exact ih h2 x hx
theorem NdR.vals (h : NdR K F L kvs) : DqAll K F (L.map fun x => x.2.2) (kvs.map (·.2)) := by
  induction h with
  | nil => exact .nil
  | cons _ _ d2 _ ih => exact .cons d2 ih
theorem NdR.get {i : Nat} {n : NestedKey} {b : Addr} {v : V} (h : NdR K F L kvs) (e : L[i]? = some (n, b, v)) : ∃ q, kvs[i]? = some q ∧ Dq K F (.ref b) q.1 ∧ Dq K F v q.2 := by
  induction h generalizing i with
  | nil => simp at e
  | @cons m b0 v0 L k u kvs _ d1 d2 _ ih =>
    cases i with
    | zero => cases e; exact ⟨(k, u), rfl, d1, d2⟩
    | succ i =>
      obtain ⟨q, z1, z2⟩ := ih (i := i) (by simpa using e)
      exact ⟨q, by simpa using z1, z2⟩
end
end MM
namespace MM
open PySem L2
section
variable {K : PySem.W.Frag} {c : Cc} {g : Str → Option Value} {W : WX} {ρ ρ' : Ev} {σ σ' : St} {F F' H H' : Hp} {E E' T T' S S1 S2 : Addr → Prop} {v : V} {o : O} {u : U} {Q : VK} {D : Ends}
def scO : O → Option U
  | .sh u => some u
  | _ => none
def keO : O → Option U
  | .sh u => if keyB u = true then some u else none
  | _ => none
def ndE : O → Option (List (U × U))
  | .nd l => some l
  | .nf l => some l
  | _ => none
theorem scO_ok (r : RpO K F H v o S) (e : scO o = some u) : Dq K F v u := by
  cases o with
  | sh w =>
    cases e
    cases r with
    | sh d => exact d
  | _ => cases e
theorem keO_ok (hF : Same F H) (r : RpO K F H v o S) (e : keO o = some u) : ∃ b, v = .ref b ∧ KeyH K H b (nkU u) ∧ Dq K F (.ref b) u ∧ keyB u = true := by
  cases o with
  | sh w =>
    simp only [keO] at e
    split at e
    · rename_i z
      cases e
      cases r with
      | sh d =>
        obtain ⟨_, _, us, rfl⟩ := keyB_e z
        cases d with
        | @tup b xs _ h a => exact ⟨b, rfl, ⟨_, Dq.mono hF _ _ (.tup h a), z, rfl⟩, .tup h a, z⟩
    · cases e
  | _ => cases e
theorem ndE_ok {l : List (U × U)} (hF : Same F H) (r : RpO K F H v o S) (e : ndE o = some l) : ∃ p L, v = .ref p ∧ Rd H p (NDo p L) ∧ NdR K F L l ∧ ndOk l = true ∧ KeysH K H L := by
  cases o with
  | nd w =>
    cases e
    cases r with
    | @nd p _ L _ h d k _ => exact ⟨p, L, rfl, .inl h, d, k, d.keys hF k⟩
  | nf w =>
    cases e
    cases r with
    | @nf p _ L _ h d k _ =>
      obtain ⟨o, h⟩ := h
      exact ⟨p, L, rfl, .inr ⟨o, hF _ _ h⟩, d, k, d.keys hF k⟩
  | _ => cases e
def fNIx (a b : O) (ρ : Ev) : R O := match ndE a with
  | some l => match keO b with
    | some k => match lkN l (nkU k) with
      | some v => .ok (.sh v) ρ
      | none => .bad
    | none => .bad
  | none => .bad
def npix (i : Nat) (k v : U) (ρ : Ev) : Option (Option O) → Fl
  | some (some (.nd l)) => if l.length < 16777216 then .nx (ρ.set i (some (.nd (putN l k v)))) else .bad
  | _ => .bad
def ndAt : Option (Option O) → Bool
  | some (some (.nd _)) => true
  | _ => false
def nset2 (i : Nat) (v : U) (ρ : Ev) : Option U → Fl
  | some k => npix i k v ρ ρ[i]?
  | none => .bad
def nset1 (i : Nat) (v : U) : R Dn → Fl
  | .ok d ρ => nset2 i v ρ ((oOf ρ d).bind keO)
  | .exc cl r => .exc cl r
  | .bad => .bad
def nset0 (i : Nat) (idx : Ag) (ρ : Ev) : Option U → Bool → Fl
  | some v, true => nset1 i v (evA idx ρ)
  | _, _ => .bad
def sNSet (i : Nat) (idx : Ag) (m : ME) : MS := sE m fun o ρ => nset0 i idx ρ (scO o) (ndAt ρ[i]?)
theorem conv_nset {i : Nat} {idx : Ag} {m : ME} (σ : St) (H : Hp) (h : tS K c g W (sNSet i idx m) D σ H) : tAsg (tM K c g W m) (gSub (tVar i) (tAg K c g W idx) (rNSet K)) D σ H := by
  obtain ⟨ρ, F, E, M, h⟩ := h
  unfold sNSet sE at h
  refine ⟨ρ, F, E, Em, M, ?_⟩
  cases e : m ρ with
  | exc cl ρ1 => rw [e] at h; exact fun C F' H' E' a f M' => h C σ F' H' E' a f M'
  | bad => rw [e] at h; exact h
  | ok o ρ1 =>
    rw [e] at h
    simp only at h
    intro x F1 H1 E1 S1 f1 k1 M1 d1 r1
    cases e2 : scO o with
    | none => rw [e2] at h; exact h.elim
    | some z =>
      rw [e2] at h
      have hx := scO_ok r1 e2
      cases e3 : ρ1[i]? with
      | none => rw [e3] at h; exact h.elim
      | some x1 =>
        cases x1 with
        | none => rw [e3] at h; exact h.elim
        | some o1 =>
          cases o1 with
          | sh _ => rw [e3] at h; exact h.elim
          | od _ => rw [e3] at h; exact h.elim
          | ol _ => rw [e3] at h; exact h.elim
          | ot _ => rw [e3] at h; exact h.elim
          | sc _ => rw [e3] at h; exact h.elim
          | nf _ => rw [e3] at h; exact h.elim
          | ins _ _ => rw [e3] at h; exact h.elim
          | fi _ _ => rw [e3] at h; exact h.elim
          | dl _ _ => rw [e3] at h; exact h.elim
          | df _ => rw [e3] at h; exact h.elim
          | nd l0 =>
            rw [e3] at h
            simp only [ndAt, nset0] at h
            obtain ⟨v0, S0, hv, r0, _⟩ := M1.env.get e3
            have M1' : MI K c ρ1 σ F1 H1 E1 Em := M1.less fun a x => x.elim
            refine ⟨v0, hv, run_ag M1' ?_⟩
            cases e4 : evA idx ρ1 with
            | exc cl ρ2 => rw [e4] at h; exact fun C F' H' E' a f M' => h C σ F' H' E' a (f1.trans f) M'
            | bad => rw [e4] at h; exact h
            | ok d ρ2 =>
              rw [e4] at h
              intro y F2 H2 E2 S2 f2 k2 M2 d2 r2
              simp only [nset1] at h
              cases e5 : (oOf ρ2 d).bind keO with
              | none => rw [e5] at h; exact h.elim
              | some k =>
                rw [e5] at h
                obtain ⟨oz, ez1, ez2⟩ := Option.bind_eq_some_iff.mp e5
                obtain ⟨Sz, rz, _⟩ := r2.rp M2 (fun a x => .inr x) ez1
                obtain ⟨b, rfl, kb, db, kk⟩ := keO_ok M2.ff rz ez2
                simp only [nset2] at h
                cases e6 : ρ2[i]? with
                | none => rw [e6] at h; exact h.elim
                | some x2 =>
                  rw [e6] at h
                  cases x2 with
                  | none => exact h.elim
                  | some o2 =>
                    cases o2 with
                    | sh _ => exact h.elim
                    | od _ => exact h.elim
                    | ol _ => exact h.elim
                    | ot _ => exact h.elim
                    | sc _ => exact h.elim
                    | nf _ => exact h.elim
                    | ins _ _ => exact h.elim
                    | fi _ _ => exact h.elim
                    | dl _ _ => exact h.elim
                    | df _ => exact h.elim
                    | nd l =>
                      simp only [npix] at h
                      split at h
                      · rename_i hl
                        obtain ⟨v1, S, E3, hv1, rt, M3, dj3⟩ := M2.take e6
                        rw [hv] at hv1
                        cases hv1
                        cases rt with
                        | @nd p _ L _ hp dk ok hSp =>
                          have M4 := MI.write (ob := NDo p (stoV L (nkU k) b x)) M3 dj3 hSp
                          have M5 := M4.back (o := .nd (putN l k z)) (v := .ref p) (i := i) dj3 (.nd upd_same (dk.put db (Dq.mono f2 _ _ hx)) (ndOk_put ok kk) hSp) hv
                          refine ⟨p, L, b, nkU k, rfl, rfl, hp, dk.keys M2.ff ok, kb, by rw [dk.len, line_eq]; exact hl, ?_⟩
                          rw [List.set_set] at M5
                          exact h σ F2 _ _ (f1.trans f2) (M5.less (T' := Em) fun a x => False.elim x)
                      · exact h.elim
end
section
variable {X : Cx} {c : Cc} {W : WX} {e e1 e2 eo ei : Expr} {a b idx : Ag} {m : ME} {pos p2 p3 p4 : Pos} {i : Nat}
theorem s_nset (hu : X.A.units + 64 < cLine) (i : Nat) (ho : PE X eo (tVar i)) (hi : PX X c W ei idx) (he : PM X c W e m) (ha : ∀ v, assign (.Subscript eo ei p2) X.env v = (do
      let ov ← holding [v] (eval eo X.env)
      let iv ← holding [v, ov] (eval ei X.env)
      standAt p2
      holding [v, ov, iv] (setItem ov iv v)
      release [v, ov, iv] []) := by intro _; rfl) (hs : swapsWithSole [.Subscript eo ei p2] e pos.line X.env = pure false := by rfl) (hw : swappedStores [.Subscript eo ei p2] e X.env = pure none := by rfl)
    (h1 : (assignEach [.Subscript eo ei p2] X.env).map (·.2) = [assign (.Subscript eo ei p2) X.env] := by rfl) : PSM X c W (.Assign [.Subscript eo ei p2] e pos) (sNSet i idx m) :=
  ps_conv (ps_asg he (pg_sub ho hi (set_nd hu) ha) hs hw h1) fun D σ H q => conv_nset σ H q
end
end MM
namespace MM
open PySem L2
section
variable {K : PySem.W.Frag} {c : Cc} {g : Str → Option Value} {W : WX} {ρ ρ' : Ev} {σ σ' : St} {F F' H H' : Hp} {E E' T T' S S1 S2 : Addr → Prop} {v : V} {o : O} {u : U} {Q : VK} {D : Ends}
def lenNO (o : O) : Option U := match ndE o with
  | some l => some (.int (l.length : Nat))
  | none => none
def fKeysN : List O → Ev → R O
  | [o], ρ => match ndE o with
    | some l => .ok (.ol (shs (l.map (·.1)))) ρ
    | none => .bad
  | _, _ => .bad
def ndO : Option (Option O) → Option (List (U × U))
  | some (some o) => ndE o
  | _ => none
def nget3 (l : List (U × U)) (k z : Option U) (ρ : Ev) : R O := match k with
  | some k => match z with
    | some z => .ok (.sh ((lkN l (nkU k)).getD z)) ρ
    | none => .bad
  | none => .bad
def nget2 (i : Nat) (da db : Dn) (ρ : Ev) : R O := match ndO ρ[i]? with
  | some l => nget3 l ((oOf ρ da).bind keO) ((oOf ρ db).bind scO) ρ
  | none => .bad
def nget1 (i : Nat) (b : Ag) : R Dn → R O
  | .ok da ρ1 => match evA b ρ1 with
    | .ok db ρ2 => nget2 i da db ρ2
    | .exc cl r => .exc cl r
    | .bad => .bad
  | .exc cl r => .exc cl r
  | .bad => .bad
def mNGet (i : Nat) (a b : Ag) : ME := fun ρ => match ndO ρ[i]? with
  | some _ => nget1 i b (evA a ρ)
  | none => .bad
def nlit1 (k z : Option U) (ρ : Ev) : R O := match k with
  | some k => match z with
    | some z => .ok (.nd [(k, z)]) ρ
    | none => .bad
  | none => .bad
def mNLit0 : ME := fun ρ => .ok (.nd []) ρ
def mNLit1 (a b : Ag) : ME := fun ρ => match evA a ρ with
  | .ok da ρ1 => match evA b ρ1 with
    | .ok db ρ2 => nlit1 ((oOf ρ2 da).bind keO) ((oOf ρ2 db).bind scO) ρ2
    | .exc cl r => .exc cl r
    | .bad => .bad
  | .exc cl r => .exc cl r
  | .bad => .bad
theorem conv_nlit0 (σ : St) (H : Hp) (Q : VK) (h : tM K c g W mNLit0 σ H Q) : tNNew σ H Q := by
  obtain ⟨ρ, F, E, T, M, h⟩ := h
  intro p hp
  have hT : ∀ a, T a → a ≠ p := fun a x z => by subst z; exact (M.own _ (.inr x)).2.1 hp
  exact h (.ref p) F _ E (fun a => a = p) (Same.refl F) (fun a x => upd_ne (hT a x)) (M.new hp) (fun a x y => hT a x y) (.nd upd_same .nil rfl rfl)
def itemsU (l : List (U × U)) : List U := l.map fun q => .tuple [q.1, q.2]
def nwO : Option (Option O) → Option (List (U × U))
  | some (some (.nd l)) => some l
  | _ => none
def srcIt (i : Nat) : Ev → R (List U) := fun ρ => match nwO ρ[i]? with
  | some l => .ok (itemsU l) (ρ.set i none)
  | none => .bad
end
section
variable {X : Cx} {c : Cc} {W : WX} {e e1 e2 eo ei : Expr} {a b idx : Ag} {m : ME} {pos p2 p3 p4 : Pos} {i : Nat} {elts : List Expr} {kk : Nat} {tpos : Pos}
theorem x_nlit0 : PM X c W (.Dict [] [] pos) mNLit0 := pe_conv pe_nnew fun σ H Q q => conv_nlit0 σ H Q q
end
end MM
namespace MM
open PySem L2 PyProof.Rows
def rNIn (K : PySem.W.Frag) (n : Bool) : R2 := fun x y H Q => ∃ b k a L, x = .ref b ∧ y = .ref a ∧ Rd H a (NDo a L) ∧ KeysH K H L ∧ KeyH K H b k ∧ Q (.bl (n ^^ (atV L k).isSome)) H
section
variable {X : Cx}
theorem some_eq {L : List NE} {k : NestedKey} {xs : List (NestedKey × Addr × Value)} (r : Paired PV L xs) : (atKey xs k).isSome = (atV L k).isSome := by
  have q := (PV.val r k).isSome_eq
  rw [Option.isSome_map] at q
  exact q.symm
theorem op_nIn (hu : X.A.units + 64 < cLine) : OpR X (compareOp .In) (rNIn X.K false) := by
  intro pins s σ H x y v u Q I rx ry h
  obtain ⟨b, k, a, L, rfl, rfl, hd, ks, kb, q⟩ := h
  obtain rfl : v = Value.ref b := rx
  obtain rfl : u = Value.ref a := ry
  have z := nd_of I.hok hd
  obtain ⟨xs, r, dd⟩ := nd_dict I ks z
  refine wpAny_in_heap (room_n hu) (kb.is I).1 z.2.1 dd ?_
  rw [some_eq r]
  rw [Bool.false_xor] at q
  exact ⟨.bl _, H, I.tok _, rfl, q⟩
end
def fNIn (n : Bool) (a b : O) (ρ : Ev) : R O := match keO a with
  | some k => match ndE b with
    | some l => .ok (.sh (.bool (n ^^ (lkN l (nkU k)).isSome))) ρ
    | none => .bad
  | none => .bad
theorem sv_nIn {K : PySem.W.Frag} {c : Cc} {g : Str → Option Value} {W : WX} {n : Bool} : Serves K c g W (rNIn K n) (fNIn n) := by
  intro ρ σ F H E T Sa Sb x y oa ob Q M ra rb _ _ h
  unfold fNIn at h
  cases e1 : keO oa with
  | none => rw [e1] at h; exact h.elim
  | some k =>
    rw [e1] at h
    simp only at h
    cases e2 : ndE ob with
    | none => rw [e2] at h; exact h.elim
    | some l =>
      rw [e2] at h
      obtain ⟨b, rfl, kb, _, _⟩ := keO_ok M.ff ra e1
      obtain ⟨p, L, rfl, hp, d, ok, ks⟩ := ndE_ok M.ff rb e2
      exact ⟨b, nkU k, p, _, rfl, rfl, hp, ks, kb, by rw [(d.at (nkU k)).isSome]; exact h.sc M (.bl _)⟩
end MM
namespace MM
open PySem L2
section
variable {ρ ρ1 ρ2 : Ev} {a b : Ag} {i : Nat} {k v z u : U} {l : List (U × U)} {us : List U} {da db : Dn} {m : ME}
theorem nl0_e : mNLit0 ρ = .ok (.nd []) ρ := (rfl)
def nlb (da : Dn) : R Dn → R O
  | .ok db ρ2 => nlit1 ((oOf ρ2 da).bind keO) ((oOf ρ2 db).bind scO) ρ2
  | .exc cl r => .exc cl r
  | .bad => .bad
def nla (b : Ag) : R Dn → R O
  | .ok da ρ1 => nlb da (evA b ρ1)
  | .exc cl r => .exc cl r
  | .bad => .bad
theorem nl1_e : mNLit1 a b ρ = nla b (evA a ρ) := by
  unfold mNLit1 nla
  cases evA a ρ with
  | ok da ρ1 =>
    show (match evA b ρ1 with | .ok db ρ2 => nlit1 ((oOf ρ2 da).bind keO) ((oOf ρ2 db).bind scO) ρ2 | .exc cl r => .exc cl r | .bad => .bad) = nlb da (evA b ρ1)
    unfold nlb
    cases evA b ρ1 <;> rfl
  | exc cl r => rfl
  | bad => rfl
theorem nla_o : nla b (.ok da ρ1) = nlb da (evA b ρ1) := (rfl)
theorem nlb_o : nlb da (.ok db ρ2) = nlit1 ((oOf ρ2 da).bind keO) ((oOf ρ2 db).bind scO) ρ2 := (rfl)
theorem nlit_s : nlit1 (some k) (some z) ρ = .ok (.nd [(k, z)]) ρ := (rfl)
theorem keO_y (h : keyB u = true) : keO (.sh u) = some u := if_pos h
theorem scO_i {n : Int} : scO (.sh (.int n)) = some (.int n) := (rfl)
def nst (i : Nat) (idx : Ag) : R O → Fl
  | .ok o ρ => nset0 i idx ρ (scO o) (ndAt ρ[i]?)
  | .exc cl r => .exc cl r
  | .bad => .bad
theorem nset_e {idx : Ag} : sNSet i idx m ρ = nst i idx (m ρ) := by
  unfold sNSet sE nst
  cases m ρ <;> rfl
theorem nst_o {idx : Ag} {o : O} : nst i idx (.ok o ρ) = nset0 i idx ρ (scO o) (ndAt ρ[i]?) := (rfl)
theorem nset0_e {idx : Ag} : nset0 i idx ρ (some v) true = nset1 i v (evA idx ρ) := (rfl)
theorem nset1_o : nset1 i v (.ok da ρ) = nset2 i v ρ ((oOf ρ da).bind keO) := (rfl)
theorem nset2_s : nset2 i v ρ (some k) = npix i k v ρ ρ[i]? := (rfl)
theorem npix_e (h : l.length < 16777216) : npix i k v ρ (some (some (.nd l))) = .nx (ρ.set i (some (.nd (putN l k v)))) := if_pos h
theorem ndAt_y : ndAt (some (some (.nd l))) = true := (rfl)
def ng1 (i : Nat) (da : Dn) : R Dn → R O
  | .ok db ρ2 => nget2 i da db ρ2
  | .exc cl r => .exc cl r
  | .bad => .bad
def ng0 (i : Nat) (a b : Ag) (ρ : Ev) : Option (List (U × U)) → R O
  | some _ => nget1 i b (evA a ρ)
  | none => .bad
theorem nget_e : mNGet i a b ρ = ng0 i a b ρ (ndO ρ[i]?) := by
  unfold mNGet ng0
  cases ndO ρ[i]? <;> rfl
theorem ng0_s : ng0 i a b ρ (some l) = nget1 i b (evA a ρ) := (rfl)
theorem nget1_o : nget1 i b (.ok da ρ1) = ng1 i da (evA b ρ1) := by
  show (match evA b ρ1 with | .ok db ρ2 => nget2 i da db ρ2 | .exc cl r => .exc cl r | .bad => .bad) = _
  unfold ng1
  cases evA b ρ1 <;> rfl
theorem ng1_o : ng1 i da (.ok db ρ2) = nget2 i da db ρ2 := (rfl)
def ng2 (da db : Dn) (ρ : Ev) : Option (List (U × U)) → R O
  | some l => nget3 l ((oOf ρ da).bind keO) ((oOf ρ db).bind scO) ρ
  | none => .bad
theorem nget2_e : nget2 i da db ρ = ng2 da db ρ (ndO ρ[i]?) := by
  unfold nget2 ng2
  cases ndO ρ[i]? <;> rfl
theorem ng2_s : ng2 da db ρ (some l) = nget3 l ((oOf ρ da).bind keO) ((oOf ρ db).bind scO) ρ := (rfl)
theorem nget3_s : nget3 l (some k) (some z) ρ = .ok (.sh ((lkN l (nkU k)).getD z)) ρ := (rfl)
theorem ndO_y : ndO (some (some (.nd l))) = some l := (rfl)
theorem f_lenN : f1 lenNO [.nd l] ρ = .ok (.sh (.int (l.length : Nat))) ρ := (rfl)
theorem f_keysN : fKeysN [.nd l] ρ = .ok (.ol (shs (l.map (·.1)))) ρ := (rfl)
def si1 (i : Nat) (ρ : Ev) : Option (List (U × U)) → R (List U)
  | some l => .ok (itemsU l) (ρ.set i none)
  | none => .bad
theorem srcIt_e : srcIt i ρ = si1 i ρ (nwO ρ[i]?) := by
  unfold srcIt si1
  cases nwO ρ[i]? <;> rfl
theorem nwO_y : nwO (some (some (.nd l))) = some l := (rfl)
theorem si1_s : si1 i ρ (some l) = .ok (itemsU l) (ρ.set i none) := (rfl)
theorem f_intb {c : Bool} : f1 intO [.sh (.bool c)] ρ = .ok (.sh (.int (if c then 1 else 0))) ρ := (rfl)
theorem f_inti {c : Int} : f1 intO [.sh (.int c)] ρ = .ok (.sh (.int c)) ρ := (rfl)
theorem fTup_sh : fTuple [.sh (.list us)] ρ = .ok (.sh (.tuple us)) ρ := (rfl)
theorem fTup_ol : fTuple [.ol (shs us)] ρ = .ok (.sh (.tuple us)) ρ := by
  simp only [fTuple, lstE, allSh_shs]
theorem mt1_nd : mt1 i ρ (some (some (.nd l))) = .ok (.nd l) (ρ.set i none) := (rfl)
theorem tkO_nd {ds : List Dn} : tkO ds i ρ (some (some (.nd l))) = (takeA ds (ρ.set i none)).map fun p => (.nd l :: p.1, p.2) := (rfl)
theorem nix_e (h : keyB k = true) : fNIx (.nd l) (.sh k) ρ = match lkN l (nkU k) with
    | some v => .ok (.sh v) ρ
    | none => .bad := by
  unfold fNIx
  rw [keO_y h]
  rfl
theorem nin_e {n : Bool} (h : keyB k = true) : fNIn n (.sh k) (.nd l) ρ = .ok (.sh (.bool (n ^^ (lkN l (nkU k)).isSome))) ρ := by
  unfold fNIn
  rw [keO_y h]
  rfl
end
end MM
namespace MM
open PySem L2
section
variable {X : Cx} {pins : List (Addr × Obj)} {σ : St} {H : Hp} {s : Shared} {d : Addr} {L : List NE} {o : Obj}
end
section
variable {K : PySem.W.Frag} {c : Cc} {g : Str → Option Value} {W : WX} {ρ ρ' : Ev} {σ σ' : St} {F F' H H' : Hp} {E E' T T' S S1 S2 : Addr → Prop} {v : V} {o : O} {u : U} {Q : VK} {D : Ends}
def sky (i : Nat) (ρ : Ev) : Option (Option O) → R (List U)
  | some (some (.nd l)) => .ok (l.map (·.1)) (ρ.set i (some (.nf l)))
  | some (some (.nf l)) => .ok (l.map (·.1)) ρ
  | _ => .bad
def srcKy (i : Nat) : Ev → R (List U) := fun ρ => sky i ρ ρ[i]?
end
section
variable {X : Cx} {c : Cc} {W : WX} {eo tg : Expr} {i : Nat}
end
section
variable {ρ : Ev} {i : Nat} {l : List (U × U)}
theorem srcKy_e : srcKy i ρ = sky i ρ ρ[i]? := (rfl)
theorem sky_d : sky i ρ (some (some (.nd l))) = .ok (l.map (·.1)) (ρ.set i (some (.nf l))) := (rfl)
theorem sky_f : sky i ρ (some (some (.nf l))) = .ok (l.map (·.1)) ρ := (rfl)
theorem nixf_e {k : U} (h : keyB k = true) : fNIx (.nf l) (.sh k) ρ = match lkN l (nkU k) with
    | some v => .ok (.sh v) ρ
    | none => .bad := by
  unfold fNIx
  rw [keO_y h]
  rfl
end
end MM
namespace MM
open PySem PySem.Spec PyProof.Rows L2
section
variable {prog : Program} {w : World} {A : Around} {E : Value → Shared → Prop} {s : Shared}
end
structure SqD (K : PySem.W.Frag) (S : Hp → Prop) (a : Addr) (xs : List V) (It1 : Heap → Addr → Nat → Prop) : Prop where
  obj : ∀ {h : Heap} {it : Addr} {i : Nat}, It1 h it i → ∃ o, h.get? it = some o ∧ ∀ v, o.data ≠ .cell v
  at_ : ∀ {h h' : Heap} {it : Addr} {i : Nat}, It1 h it i → (∀ o, h.get? it = some o → h'.get? it = some o) → It1 h' it i
  dr : ∀ (X : Cx) (pins : List (Addr × Obj)) (σ : L2.St) (s : Shared) (H : Hp), X.K = K → X.A.handled = none → Inv X pins σ H s → S H → ∃ its : Array Value, Vals xs its.toList ∧ ∀ it, a ≠ it → ∃ St1 : Nat → Heap → Prop, Draws X.prog X.w X.A.in1 it [it, a] its.size (fun i v => its[i]? = some v) St1 ∧ (∀ i, It1 s.heap it i → St1 i s.heap) ∧ ∀ i h, St1 i h → It1 h it i
end MM
namespace MM
open PySem L2
section
variable {K : PySem.W.Frag} {c : Cc} {g : Str → Option Value} {W : WX} {ρ ρ' : Ev} {σ σ' : St} {F F' H H' : Hp} {E E' T T' S S1 S2 : Addr → Prop} {v : V} {o : O} {u : U} {us ws : List U} {vs zs : List V} {Q : VK}
def sqB : O → Option (Bool × List U)
  | .sh (.list us) => some (true, us)
  | .sh (.tuple us) => some (false, us)
  | _ => none
def zipX : Option (Bool × List U) → Option (Bool × List U) → Ev → R (List U)
  | some (true, us), some (true, ws), ρ => .ok (zipU us ws) ρ
  | some (true, us), some (false, ws), ρ => .ok (zipU us ws) ρ
  | some (false, us), some (true, ws), ρ => .ok (zipU us ws) ρ
  | some (false, us), some (false, ws), ρ => .ok (zipU us ws) ρ
  | _, _, _ => .bad
def src2X (as : List Ag) : Ev → R (List U) := fun ρ => match evAs as ρ with
  | .ok ds ρ1 => match osAt ρ1 ds with
    | some [o, o'] => zipX (sqB o) (sqB o') ρ1
    | _ => .bad
  | .exc cl r => .exc cl r
  | .bad => .bad
end
section
variable {X : Cx} {c : Cc} {W : WX} {e e1 e2 : Expr} {a b : Ag} {pos p p2 tpos : Pos} {elts : List Expr} {kk : Nat}
end
section
variable {ρ : Ev} {as : List Ag} {us ws : List U}
def s2a : R (List Dn) → R (List U)
  | .ok ds ρ1 => match osAt ρ1 ds with
    | some [o, o'] => zipX (sqB o) (sqB o') ρ1
    | _ => .bad
  | .exc cl r => .exc cl r
  | .bad => .bad
def s2b (ρ : Ev) : Option (List O) → R (List U)
  | some [o, o'] => zipX (sqB o) (sqB o') ρ
  | _ => .bad
theorem src2X_e : src2X as ρ = s2a (evAs as ρ) := by
  unfold src2X s2a
  cases evAs as ρ <;> rfl
theorem s2a_o {ds : List Dn} : s2a (.ok ds ρ) = s2b ρ (osAt ρ ds) := by
  unfold s2a s2b
  rfl
theorem s2b_s {o o' : O} : s2b ρ (some [o, o']) = zipX (sqB o) (sqB o') ρ := (rfl)
theorem sqB_l : sqB (.sh (.list us)) = some (true, us) := (rfl)
theorem sqB_u : sqB (.sh (.tuple us)) = some (false, us) := (rfl)
theorem zipX_ll : zipX (some (true, us)) (some (true, ws)) ρ = .ok (zipU us ws) ρ := (rfl)
theorem zipX_lt : zipX (some (true, us)) (some (false, ws)) ρ = .ok (zipU us ws) ρ := (rfl)
theorem zipX_tl : zipX (some (false, us)) (some (true, ws)) ρ = .ok (zipU us ws) ρ := (rfl)
end
end MM
namespace MM
open PySem L2
theorem lpC_fmm {α : Type} {t : Tg} {own : List Nat} {test : Ev → R Bool} {elt : ME} (ρ : Ev) (g h : α → U) (p : α → Bool) : ∀ (l : List α), (∀ r ∈ l, ∃ ρ1, bind t (g r) ρ = some ρ1 ∧ ∃ ρ2, test ρ1 = .ok (p r) ρ2 ∧ (p r = false → wipeE ρ2 own = ρ) ∧ (p r = true → ∃ ρ3, elt ρ2 = .ok (.sh (h r)) ρ3 ∧ wipeE ρ3 own = ρ)) →
    ∀ acc : List O, lpC t own test elt (l.map g) acc ρ = .ok (.ol (acc.reverse ++ shs ((l.filter p).map h))) ρ
  | [], _, acc => by simp [lpC, shs]
  | r :: l, hh, acc => by
    obtain ⟨ρ1, e1, ρ2, e2, h0, h1⟩ := hh r List.mem_cons_self
    have ih := lpC_fmm ρ g h p l fun v hv => hh v (List.mem_cons_of_mem _ hv)
    rw [List.map_cons]
    unfold lpC
    simp only [e1, e2]
    cases q : p r with
    | false =>
      simp only [h0 q]
      rw [ih acc, List.filter_cons_of_neg (by rw [q]; exact Bool.false_ne_true)]
    | true =>
      obtain ⟨ρ3, e3, e4⟩ := h1 q
      simp only [e3, e4]
      rw [ih (.sh (h r) :: acc), List.filter_cons_of_pos q, List.reverse_cons, List.append_assoc]
      rfl
theorem lc_fmm {α : Type} {t : Tg} {own : List Nat} {src : Ev → R (List U)} {test : Ev → R Bool} {elt : ME} {ρ ρ1 ρw : Ev} {l : List α} (g h : α → U) (p : α → Bool) (hs : src ρ = .ok (l.map g) ρ1) (hl : l.length ≤ 16777216) (hw : wipeE ρ1 own = ρw)
    (hh : ∀ r ∈ l, ∃ ρ1, bind t (g r) ρw = some ρ1 ∧ ∃ ρ2, test ρ1 = .ok (p r) ρ2 ∧ (p r = false → wipeE ρ2 own = ρw) ∧ (p r = true → ∃ ρ3, elt ρ2 = .ok (.sh (h r)) ρ3 ∧ wipeE ρ3 own = ρw)) :
    mLc t own src test elt ρ = .ok (.ol (shs ((l.filter p).map h))) (resE ρ1 own ρw) := by
  unfold mLc
  rw [hs]
  have hl2 : (l.map g).length ≤ 16777216 := by rw [List.length_map]; exact hl
  simp only [if_pos hl2, hw, lpC_fmm ρw g h p l hh [], List.reverse_nil, List.nil_append]
theorem lc_mm {α : Type} {t : Tg} {own : List Nat} {src : Ev → R (List U)} {elt : ME} {ρ ρ1 ρw : Ev} {l : List α} (g h : α → U) (hs : src ρ = .ok (l.map g) ρ1) (hl : l.length ≤ 16777216) (hw : wipeE ρ1 own = ρw)
    (hh : ∀ r ∈ l, ∃ ρ1, bind t (g r) ρw = some ρ1 ∧ ∃ ρ3, elt ρ1 = .ok (.sh (h r)) ρ3 ∧ wipeE ρ3 own = ρw) :
    mLc t own src bYes elt ρ = .ok (.ol (shs (l.map h))) (resE ρ1 own ρw) := by
  rw [lc_fmm g h (fun _ => true) hs hl hw fun r hr => ?_]
  · rw [List.filter_eq_self.mpr (fun _ _ => rfl)]
  · obtain ⟨ρ1, e1, ρ3, e3, e4⟩ := hh r hr
    refine ⟨ρ1, e1, ρ1, rfl, ?_, ?_⟩
    · intro z; cases z
    · intro _; exact ⟨ρ3, e3, e4⟩
theorem map_iU {α : Type} (z : α → Int) (l : List α) : l.map (fun r => PyData.int (z r)) = iU (l.map z) := by
  unfold iU; rw [List.map_map]; rfl
theorem all_cons {α : Type} {P : α → Prop} {a : α} {l : List α} (h : P a) (t : ∀ r ∈ l, P r) : ∀ r ∈ a :: l, P r := fun r hr => by
  rcases List.mem_cons.mp hr with rfl | hr
  · exact h
  · exact t r hr
theorem lp_go {t : Tg} {p : MS} {u : U} {us : List U} {ρ ρ1 : Ev} (h : bind t u ρ = some ρ1) : lpF t p (u :: us) ρ = lp2 t p us (p ρ1) := by rw [lp_c, h, lp1_o]
end MM
namespace MM
open PySem L2
section
variable {K : PySem.W.Frag} {c : Cc} {g : Str → Option Value} {W : WX} {F H : Hp} {E T : Addr → Prop}
end
section
variable {ρ : Ev} {l : List (U × U)} {us : List U}
end
end MM
namespace MM
open PySem L2
section
variable {X : Cx} {pins : List (Addr × Obj)} {σ : St} {H : Hp} {s : Shared} {d : Addr} {L : List NE} {o : Obj}
end
section
variable {K : PySem.W.Frag} {c : Cc} {g : Str → Option Value} {W : WX} {ρ ρ' : Ev} {σ σ' : St} {F F' H H' : Hp} {E E' T T' S S1 S2 : Addr → Prop} {v : V} {o : O} {u : U} {Q : VK} {D : Ends}
end
section
variable {X : Cx} {c : Cc} {W : WX} {e eo : Expr} {m : ME} {pos : Pos} {i : Nat} {elts : List Expr} {kk : Nat} {tpos : Pos}
end
section
variable {ρ : Ev} {i : Nat} {l : List (U × U)} {m : ME}
end
end MM
namespace MM
open PySem L2
section
variable {K : PySem.W.Frag} {c : Cc} {g : Str → Option Value} {W : WX} {ρ ρ' : Ev} {σ σ' : St} {F F' H H' : Hp} {E E' T T' S S1 S2 : Addr → Prop} {v : V} {o : O} {u : U} {Q : VK} {D : Ends}
end
section
variable {X : Cx} {c : Cc} {W : WX} {e1 e2 eo : Expr} {a b : Ag} {m : ME} {pos : Pos}
end
section
variable {ρ ρ1 : Ev} {a b : Ag} {m : ME} {l : List (U × U)} {o : O} {da db : Dn} {k z : U}
end
end MM
namespace MM
open PySem PySem.Spec PyProof.Rows L2
section
variable {K : PySem.W.Frag} {c : Cc} {g : Str → Option Value} {W : WX}
end
section
variable {ρ : Ev} {u : U} {us : List U} {j : Int}
end
end MM
namespace MM
open PySem PySem.Spec PyProof.Rows L2
open AutoSeq1 (wpAny_loadPart')
end MM
namespace MM
open PySem L2
section
variable {K : PySem.W.Frag} {c : Cc} {g : Str → Option Value} {W : WX} {ρ ρ' : Ev} {σ σ' : St} {F F' H H' : Hp} {E E' T T' S S1 S2 : Addr → Prop} {v : V} {o : O} {u : U} {us ws : List U} {vs zs : List V} {Q : VK}
end
section
variable {X : Cx} {c : Cc} {W : WX} {e1 : Expr} {a : Ag} {pos p tpos : Pos} {elts : List Expr} {kk : Nat}
end
section
variable {ρ : Ev} {as : List Ag} {us : List U} {o : O}
end
end MM
namespace MM
open PySem PySem.Spec PyProof.Rows L2
end MM
namespace MM
open PySem L2
section
variable {K : PySem.W.Frag} {c : Cc} {g : Str → Option Value} {W : WX}
end
end MM
namespace MM
open PySem L2
def fRem (os xs : List O) : Option (O × List O) := match xs with
  | [x] => match viewOs os with
    | some us => match viewO x with
      | some u => if SeqAt.shaped (.list us) = true ∧ SeqAt.shaped u = true then (match firstI u us 0 with
        | some j => some (.sh .none, os.eraseIdx j)
        | none => none) else none
      | none => none
    | none => none
  | _ => none
section
variable {X : Cx}
def rRemD (K : PySem.W.Frag) : V → List V → Hp → VK → Prop := fun x xs H Q => ∃ (a : Addr) (y : V) (vs : List V) (d : PyData) (ds : List PyData) (j : Nat) (z : PyData), x = V.ref a ∧ xs = [y] ∧ H a = some (.lst vs) ∧ DpAll K H vs ds ∧ Dp K H y d ∧
  SeqAt.shaped (.list ds) = true ∧ SeqAt.shaped d = true ∧ ds[j]? = some z ∧ PyData.eqv z d = true ∧ (∀ (m : Nat) (z' : PyData), m < j → ds[m]? = some z' → PyData.eqv z' d = false) ∧ Q .non (upd H a (.lst (vs.eraseIdx j)))
theorem mt_removeD (hu : X.A.units + 65 < cLine) : MtM X "list.remove" (rRemD X.K) := by
  intro pins s σ H x xs v us Q I rx rxs h
  obtain ⟨a, y, ws, d, ds, j, z, rfl, rfl, hH, ha, hy, sl, sd, hz, hzj, hno, q⟩ := h
  cases rx
  cases rxs with
  | cons ry rt =>
    rename_i uy ut
    cases rt
    obtain ⟨bs, r1⟩ := Dp.reads I d y uy hy ry
    have hxs : PyData.canLayAll0 ds = true := SeqAt.canLay_of_shaped sl
    have hroom : X.A.units + 1 + min (PyData.depthAll ds) d.depth < cLine := PyProof.Rows.room_in_shaped sd hu
    obtain ⟨hlen, its, n, rv, hl2, ho⟩ := I.lstM hH
    obtain ⟨as, h4⟩ := Dp.readsAll I ds _ its ha rv
    have hn : its.length = ds.length := SeqAt.ReadsAll.length ds its as h4
    have hmap : its.map (SeqAt.readOf s.heap) = ds := SeqAt.readsAll_map ds its as hxs h4
    have hvl := rv.length
    have hsl := sizeLine_eq
    obtain ⟨hjd, _⟩ := List.getElem?_eq_some_iff.mp hz
    have hjl : j < its.length := by omega
    have hj : j < its.toArray.size := by simpa using hjl
    have at_ : ∀ (m : Nat) (hm : m < its.toArray.size) (z' : PyData), ds[m]? = some z' → SeqAt.readOf s.heap its.toArray[m] = z' := by
      intro m hm z' hz'
      have hml : m < its.length := by simpa using hm
      rw [← hmap, List.getElem?_map, List.getElem?_eq_getElem hml] at hz'
      have e1 : SeqAt.readOf s.heap its[m] = z' := Option.some.inj (show some (SeqAt.readOf s.heap its[m]) = some z' from hz')
      simpa using e1
    refine call_meets PySem.F.slot_list_remove ⟨_, ho, rfl⟩ PySem.F.entry_list_remove (PySem.F.args_list_remove_2 _ _)
      (SeqAt.list_removeAt a its.toArray n none #[] uy (fun u => PyData.eqv (SeqAt.readOf s.heap u) d) j hj ?_ ?_ (by rw [List.size_toArray]; omega)) ⟨ho, SeqAt.items_eqAt (vs := its.toArray) h4 r1 hxs (SeqAt.canLay_of_shaped sd) hroom, ?_⟩
    · show PyData.eqv (SeqAt.readOf s.heap its.toArray[j]) d = true
      rw [at_ j hj z hz]
      exact hzj
    · intro m hm hmj
      have hmd : m < ds.length := by omega
      have hz' : ds[m]? = some ds[m] := List.getElem?_eq_getElem hmd
      show PyData.eqv (SeqAt.readOf s.heap its.toArray[m]) d = false
      rw [at_ m hm _ hz']
      exact hno m _ hmj hz'
    · refine ⟨.non, _, I.lset (its' := its.eraseIdx j) hH ho ?_ (rv.eraseIdx j) ?_, rfl, q⟩
      · show its.toArray.eraseIdxIfInBounds j = (its.eraseIdx j).toArray
        rw [List.eraseIdxIfInBounds_toArray]
      · have := len_erase ws j
        omega
end
section
variable {K : PySem.W.Frag} {c : Cc} {g : Str → Option Value} {W : WX} {ρ ρ' : Ev} {σ σ' : St} {F F' H H' : Hp} {E E' T T' S S1 S2 : Addr → Prop} {v : V} {o : O} {u : U} {Q : VK} {D : Ends}
def ServesG (K : PySem.W.Frag) (r : V → List V → Hp → VK → Prop) (f : List O → List O → Option (O × List O)) : Prop :=
  ∀ (F H : Hp) (p : Addr) (vs ys : List V) (os xs : List O) (S1 S2 : Addr → Prop) (o : O) (os' : List O) (Q : VK), Same F H → H p = some (.lst vs) → ¬ S1 p → ¬ S2 p → RpOs K F H vs os S1 → RpOs K F H ys xs S2 → (∀ a, S1 a → S2 a → False) → f os xs = some (o, os') →
    (∀ v vs', (∃ Sa Sb, RpO K F (upd H p (.lst vs')) v o Sa ∧ RpOs K F (upd H p (.lst vs')) vs' os' Sb ∧ (∀ a, Sa a → S1 a ∨ S2 a) ∧ (∀ a, Sb a → S1 a ∨ S2 a) ∧ ∀ a, Sa a → Sb a → False) → Q v (upd H p (.lst vs'))) → r (.ref p) ys H Q
theorem conv_mthG {r : V → List V → Hp → VK → Prop} {f : List O → List O → Option (O × List O)} {i : Nat} {as : List Ag} (sv : ServesG K r f) (σ : St) (H : Hp) (Q : VK) (h : tM K c g W (mMth i f as) σ H Q) : tBM K "list" r (tVar i) (tMA K c g W as) σ H Q := by
  obtain ⟨ρ, F, E, T, M, h⟩ := h
  unfold mMth at h
  cases q : ρ[i]? with
  | none => rw [q] at h; exact h.elim
  | some x =>
    cases x with
    | none => rw [q] at h; exact h.elim
    | some o0 =>
      cases o0 with
      | sh u => rw [q] at h; exact h.elim
      | ot os => rw [q] at h; exact h.elim
      | od os => rw [q] at h; exact h.elim
      | nd os => rw [q] at h; exact h.elim
      | nf os => rw [q] at h; exact h.elim
      | ins _ _ => rw [q] at h; exact h.elim
      | fi _ _ => rw [q] at h; exact h.elim
      | dl _ _ => rw [q] at h; exact h.elim
      | df _ => rw [q] at h; exact h.elim
      | sc os => rw [q] at h; exact h.elim
      | ol os0 =>
        rw [q] at h
        simp only at h
        obtain ⟨v0, S0, hv, r0, _⟩ := M.env.get q
        cases r0 with
        | @ol p _ _ _ _ hp0 _ _ _ _ =>
          refine ⟨_, hv, .inl ⟨rfl, _, .inl (.inl hp0)⟩, ρ, F, E, T, M, ?_⟩
          cases e : evAs as ρ with
          | exc cl ρ1 => rw [e] at h; exact h
          | bad => rw [e] at h; exact h
          | ok ds ρ1 =>
            rw [e] at h
            simp only at h
            intro ys F1 H1 E1 S2 f1 k1 M1 d1 r1
            cases e2 : osOf ds with
            | none => rw [e2] at h; exact h.elim
            | some xs =>
              rw [e2] at h
              simp only at h
              have rxs := osOf_ok r1 e2
              cases q1 : ρ1[i]? with
              | none => rw [q1] at h; exact h.elim
              | some x1 =>
                cases x1 with
                | none => rw [q1] at h; exact h.elim
                | some o1 =>
                  cases o1 with
                  | sh u => rw [q1] at h; exact h.elim
                  | ot os => rw [q1] at h; exact h.elim
                  | od os => rw [q1] at h; exact h.elim
                  | nd os => rw [q1] at h; exact h.elim
                  | nf os => rw [q1] at h; exact h.elim
                  | ins _ _ => rw [q1] at h; exact h.elim
                  | fi _ _ => rw [q1] at h; exact h.elim
                  | dl _ _ => rw [q1] at h; exact h.elim
                  | df _ => rw [q1] at h; exact h.elim
                  | sc os => rw [q1] at h; exact h.elim
                  | ol os =>
                    rw [q1] at h
                    simp only at h
                    cases e3 : f os xs with
                    | none => rw [e3] at h; exact h.elim
                    | some oo =>
                      obtain ⟨o, os'⟩ := oo
                      rw [e3] at h
                      simp only at h
                      obtain ⟨v1, S1', E2, hv1, rr, M2, dj2⟩ := M1.take q1
                      rw [hv] at hv1
                      cases hv1
                      cases rr with
                      | @ol _ vs _ _ S1 hp hps rs s1 n1 =>
                        have hpS2 : ¬ S2 p := fun x => dj2 _ (.inr x) hps
                        refine sv F1 H1 _ vs ys os xs S1 S2 o os' Q M1.ff hp n1 hpS2 rs rxs (fun a x y => dj2 a (.inr y) (s1 a x)) e3 fun v vs' ⟨Sa, Sb, ra, rb, ha, hb, hab⟩ => ?_
                        -- the changed list goes back
                        have M3 := MI.write (ob := .lst vs') (M2.less (T' := fun a => (T a ∨ S2 a) ∨ S1' a) fun a x => x) (fun a x y => dj2 a x y) hps
                        have sa : ∀ a, Sa a → S1' a ∨ S2 a := fun a x => (ha a x).imp (s1 a) id
                        have sb : ∀ a, Sb a → S1' a ∨ S2 a := fun a x => (hb a x).imp (s1 a) id
                        have nb : ¬ Sb p := fun x => (hb _ x).elim n1 hpS2
                        have na : ¬ Sa p := fun x => (ha _ x).elim n1 hpS2
                        have M4 : MI K c (ρ1.set i none) σ F1 (upd H1 p (.lst vs')) E2 (fun a => (T a ∨ Sa a) ∨ (a = p ∨ Sb a)) := M3.less fun a x => by
                          rcases x with (x | x) | x | x
                          · exact .inl (.inl x)
                          · rcases sa a x with y | y
                            · exact .inr y
                            · exact .inl (.inr y)
                          · subst x; exact .inr hps
                          · rcases sb a x with y | y
                            · exact .inr y
                            · exact .inl (.inr y)
                        have hTS : ∀ a, T a → (S1' a ∨ S2 a) → False := fun a x y => by
                          rcases y with y | y
                          · exact dj2 a (.inl x) y
                          · exact d1 a x y
                        have M5 := M4.back (o := .ol os') (v := .ref p) (i := i) (fun a x y => by
                          rcases x with x | x
                          · rcases y with y | y
                            · subst y; exact hTS _ x (.inl hps)
                            · exact hTS a x (sb a y)
                          · rcases y with y | y
                            · subst y; exact na x
                            · exact hab a x y) (.ol upd_same (.inl rfl) rb (fun a x => .inr x) nb) hv
                        rw [List.set_set] at M5
                        exact h v F1 _ _ Sa f1 (fun a x => by
                          rw [upd_ne fun z => by subst z; exact hTS _ x (.inl hps)]
                          exact k1 a x) M5 (fun a x y => hTS a x (sa a y)) ra
theorem RpOs.erase : ∀ {vs : List V} {os : List O} {S : Addr → Prop} (j : Nat), RpOs K F H vs os S → RpOs K F H (vs.eraseIdx j) (os.eraseIdx j) S
  | _, _, _, _, .nil => .nil
  | _ :: _, _ :: _, _, 0, .cons _ rs _ s2 _ => rs.mono s2
  | _ :: _, _ :: _, _, j + 1, .cons r rs s1 s2 d => .cons r (RpOs.erase j rs) s1 s2 d
theorem sv_rem : ServesG K (rRemD K) fRem := by
  intro F H p vs ys os xs S1 S2 o os' Q hF hp n1 n2 rs rx dj e k
  unfold fRem at e
  split at e
  · rename_i x
    split at e
    · rename_i us eu
      split at e
      · rename_i u ex
        split at e
        · rename_i hsh
          split at e
          · rename_i j ej
            cases e
            cases rx with
            | cons r rt s1 s2 dd =>
              cases rt
              rename_i y A1 A2
              obtain ⟨_, ⟨z, z1, z2⟩, z3⟩ := firstI_ok ej
              have dl := Dq.dpAll _ _ (RpOs.data hF rs (fun _ _ => rfl) eu)
              have dy := Dq.dp _ _ (RpO.data hF r (fun _ _ => rfl) ex)
              refine ⟨p, y, vs, u, us, j, z, rfl, rfl, hp, dl, dy, hsh.1, hsh.2, z1, z2, z3, k .non _ ⟨Em, S1, .sh .non, ?_, fun _ x => x.elim, fun a x => .inl x, fun _ x _ => x⟩⟩
              exact (rs.frame (Same.refl F) (upd_frame n1)).erase j
          · cases e
        · cases e
      · cases e
    · cases e
  · cases e
end
section
variable {X : Cx} {c : Cc} {W : WX} {e e1 e2 : Expr} {a : Ag} {as : List Ag} {p p2 q pos apos : Pos}
theorem x_rem (i : Nat) (hu : X.A.units + 65 < cLine) (ho : PE X e1 (tVar i)) (ha : PAM X c W [e2] as)
    (hbase : attributeBase e1 "remove" X.env (eval e1 X.env) = eval e1 X.env := by rfl)
    (hfew : ((backTo pos (starEach [e2] X.env)).all (fun x => !x.1) && (backToKw pos (keywordEach [] X.env)).all (fun x => x.1.isSome)
      && decide (([e2] : List Expr).length + ([] : List Keyword).length + (if ([] : List Keyword).isEmpty then 0 else 1) < 30)) = true := by rfl)
    (hline : (apos.endLine == pos.line) = true := by rfl) (hs : starEach [e2] X.env = (false, eval e2 X.env) :: starEach [] X.env := by rfl) (hplain : (backTo pos (starEach [] X.env)).any (·.1) = false := by rfl) :
    PM X c W (.Call (.Attribute e1 "remove" apos) [e2] [] pos) (mMth i fRem as) :=
  pe_conv (pe_bm PySem.F.plainAttrs_list PySem.F.slot_list_remove PySem.F.type_list_remove (mt_removeD hu) ho ha hbase hfew hline hs hplain) fun σ H Q q => conv_mthG sv_rem σ H Q q
end
end MM
namespace MM
open PySem L2
section
variable {X : Cx}
end
section
variable {K : PySem.W.Frag} {c : Cc} {g : Str → Option Value} {W : WX} {ρ ρ' : Ev} {σ σ' : St} {F F' H H' : Hp} {E E' T T' S S1 S2 : Addr → Prop} {v : V} {o : O} {u : U} {Q : VK} {D : Ends}
end
section
variable {X : Cx} {c : Cc} {W : WX} {e e1 e2 : Expr} {b : Ag} {m : ME} {pos apos : Pos}
end
end MM
namespace MM

open PySem PySem.Spec L2
section
variable {prog : Program} {w : World} {A : Around} {E : Value → Shared → Prop} {s : Shared} {v d : Addr} {es : Array DictEntry} {ep : Nat}
end
section
variable {X : Cx} {pins : List (Addr × Obj)} {σ : St} {H : Hp} {s : Shared} {d : Addr} {L : List NE} {o : Obj}
end
section
variable {K : PySem.W.Frag} {c : Cc} {g : Str → Option Value} {W : WX} {ρ ρ' : Ev} {σ σ' : St} {F F' H H' : Hp} {E E' T T' S S1 S2 : Addr → Prop} {v : V} {o : O} {u : U} {Q : VK} {D : Ends}
end
section
variable {X : Cx} {c : Cc} {W : WX} {e : Expr} {a : Ag} {p p2 q pos apos cpos : Pos}
end
end MM
namespace MM
open PySem PySem.Spec L2
section
variable {K : PySem.W.Frag} {c : Cc} {g : Str → Option Value} {W : WX} {ρ ρ' : Ev} {σ σ' : St} {F F' H H' : Hp} {E E' T T' S S1 S2 : Addr → Prop} {v : V} {o : O} {u : U} {Q : VK} {D : Ends}
end
section
variable {X : Cx} {c : Cc} {W : WX} {e : Expr} {a : Ag} {p p2 q pos : Pos}
end
end MM
namespace MM
open PySem L2 L2H
section
variable {X : Cx} {a D : Addr} {oe : Obj}
end
section
variable {X : Cx} {c : Cc} {W : WX} {es : List Expr} {y cl e0 : Str} {a C : Addr} {oe : Obj} {pos p p1 p2 p3 : Pos} {b b2 : Bool} {i k : Nat}
end
def PinZ (C : Addr) (p : Addr × Obj) : Prop := Zc (.ref C) none p.2 ∧ ∃ vs, p.2.data = .fields vs
structure FnP (P : Program) (w : World) (K : PySem.W.Frag) (mg : Str → Option Value) (base : Heap) (k : Nat) (f : Addr) (fd : FuncData) (ps : List Str) (C : Addr) (mf : List O → R O) : Prop where
  run : ∀ (A : Around) (outer : List Env) (s : Shared) (H : Hp) (args : Args) (us : List Value) (vs : List V) (Q : VK) (E : XK) (p : Addr × Obj), RoomH k A → PinOk outer H s p → PinZ C p → Env0 P w K mg base A outer s H → BindsTo s fd args (ps.zip us) → Vals vs us → spD K mg 0 (.ref p.1) mf vs H Q E →
    codeAny (model P w) A (.call (.ref f) args) (CR (L2.CX P w) outer P w H s Q E) s
structure CalP (P : Program) (w : World) (K : PySem.W.Frag) (mg : Str → Option Value) (base : Heap) (x : Str) (ps : List Str) (k : Nat) (cl : Str) (mf : List O → R O) : Prop where
  ex : ∃ (f : Addr) (fd : FuncData), mg x = some (.ref f) ∧ PySem.W.keepIn K (.ref f) = true ∧ Binds K fd ps [] ∧ ps.length = 1 ∧ ∀ C, mg cl = some (.ref C) → FnP P w K mg base k f fd ps C mf
section
variable {P : Program} {w : World} {K : PySem.W.Frag} {mg : Str → Option Value} {base : Heap} {x cl : Str} {N ps : List Str} {k j n : Nat} {st : Stmt}
theorem CalP.mono {mf : List O → R O} (C : CalP P w K mg base x ps j cl mf) (h : j ≤ k) : CalP P w K mg base x ps k cl mf :=
  let ⟨f, fd, h1, h2, h3, h4, h5⟩ := C.ex
  ⟨f, fd, h1, h2, h3, h4, fun D hD => ⟨fun A outer s H args us vs Q E p hr => (h5 D hD).run A outer s H args us vs Q E p (hr.mono h)⟩⟩
end
section
variable {X : Cx} {c : Cc} {W : WX} {e0 cl x : Str} {a C : Addr} {oe : Obj} {pos p p1 : Pos} {ps : List Str} {i k : Nat} {mf : List O → R O}
end
end MM
namespace MM
open PySem L2
end MM
namespace MM
open PySem L2
section
variable {K : PySem.W.Frag} {c : Cc} {g : Str → Option Value} {W : WX} {ρ ρ' : Ev} {σ σ' : St} {F F' H H' : Hp} {E E' T T' S S1 S2 : Addr → Prop} {v : V} {o : O} {u : U} {Q : VK} {D : Ends}
end
structure ClsF (K : PySem.W.Frag) (mg : Str → Option Value) (k : Nat) : Prop where
  mg_ : mg (cN k) = some (.ref (He.ga K (cN k)))
  cl : Cls K (He.ga K (cN k))
  na : ∀ f, f ∈ fN k → NoAttr K (He.ga K (cN k)) f
structure CalM (P : Program) (w : World) (K : PySem.W.Frag) (mg : Str → Option Value) (base : Heap) (k : Nat) (m : Str) (ps : List Str) (lv : Nat) (mf : List O → R O) : Prop where
  ex : ∃ (f : Addr) (fd : FuncData), Meth K (He.ga K (cN k)) m f ∧ Binds K fd ps [] ∧ FnOk P w K mg base (L2.CX P w) lv f fd ps (spM K mg ps.length mf)
structure StaM (K : PySem.W.Frag) (mg : Str → Option Value) (k : Nat) (m q : Str) (ps : List Str) (st : Stmt) : Prop where
  ex : ∃ (f : Addr) (fd : FuncData), Meth K (He.ga K (cN k)) m f ∧ Binds K fd ps [] ∧ Fun K m q st f fd
section
variable {P : Program} {w : World} {K : PySem.W.Frag} {mg : Str → Option Value} {base : Heap} {x q : Str} {N ps : List Str} {k j : Nat} {st : Stmt}
end
section
variable {X : Cx} {c : Cc} {W : WX} {eo en e : Expr} {es : List Expr} {m : ME} {as : List Ag} {pos p p2 p3 apos : Pos} {k i j n lv : Nat} {f x : Str} {ps : List Str} {mf : List O → R O}
end
end MM
namespace MM
open PySem L2
section
variable {fo : O → O → Ev → R O} {k i j n : Nat} {ρ ρ1 ρ2 : Ev} {o oa ob : O} {os : List O} {us : List U} {m : ME} {mf : List O → R O} {as : List Ag} {ds : List Dn} {v ke : U} {l : List (U × U)}
end
end MM
namespace MM
open PySem L2
structure StaA (K : PySem.W.Frag) (mg : Str → Option Value) (x y : Str) (ps : List Str) (st : Stmt) : Prop where
  ex : ∃ (f : Addr) (fd : FuncData), mg x = some (.ref f) ∧ Binds K fd ps [] ∧ L2.Fun K y y st f fd
section
variable {P : Program} {w : World} {K : PySem.W.Frag} {mg : Str → Option Value} {base : Heap} {x y : Str} {N ps : List Str} {k : Nat} {st : Stmt}
end
end MM
namespace MM
open PySem L2
section
variable (K : PySem.W.Frag) (c : Cc) (g : Str → Option Value) (W : WX)
end
section
variable {K : PySem.W.Frag} {c : Cc} {g : Str → Option Value} {W : WX} {ρ ρ' : Ev} {σ σ' : St} {F F' H H' : Hp} {E E' T T' S S1 S2 : Addr → Prop} {v : V} {o : O} {u : U} {D : Ends}
theorem RpOs.out : ∀ {vs : List V} {os : List O} {S : Addr → Prop} {k : Nat} {o : O}, RpOs K F H vs os S → os[k]? = some o →
    ∃ (v : V) (Sk R : Addr → Prop), vs[k]? = some v ∧ RpO K F H v o Sk ∧ (∀ a, Sk a → S a) ∧ (∀ a, R a → S a) ∧ (∀ a, Sk a → R a → False) ∧
      ∀ (F' H' : Hp) (o' : O) (Sk' : Addr → Prop), Same F F' → (∀ a, R a → H' a = H a) → RpO K F' H' v o' Sk' → (∀ a, Sk' a → R a → False) → RpOs K F' H' vs (os.set k o') (fun a => Sk' a ∨ R a)
  | _, _, _, _, _, .nil, e => by simp at e
  | w :: vs, x :: os, S, 0, o, .cons (S1 := A1) (S2 := A2) q qs s1 s2 dd, e => by
    simp only [List.getElem?_cons_zero, Option.some.injEq] at e
    subst e
    exact ⟨w, A1, A2, rfl, q, s1, s2, dd, fun F' H' o' Sk' f k r d => .cons r (qs.frame f k) (fun a x => .inl x) (fun a x => .inr x) d⟩
  | w :: vs, x :: os, S, k + 1, o, .cons (S1 := A1) (S2 := A2) q qs s1 s2 dd, e => by
    obtain ⟨v, Sk, R, h1, h2, h3, h4, h5, h6⟩ := RpOs.out (k := k) qs (by simpa using e)
    refine ⟨v, Sk, fun a => A1 a ∨ R a, by simpa using h1, h2, fun a x => s2 a (h3 a x), fun a x => x.elim (s1 a) fun y => s2 a (h4 a y), fun a x y => ?_, fun F' H' o' Sk' f kk r d => ?_⟩
    · rcases y with y | y
      · exact dd a y (h3 a x)
      · exact h5 a x y
    · refine .cons (q.frame f fun a x => kk a (.inl x)) (h6 F' H' o' Sk' f (fun a x => kk a (.inr x)) r fun a x y => d a x (.inr y)) (fun a x => .inr (.inl x)) (fun a x => x.elim .inl fun y => .inr (.inr y)) fun a x y => ?_
      rcases y with y | y
      · exact d a y (.inl x)
      · exact dd a x (h4 a y)
end
section
variable {X : Cx} {c : Cc} {W : WX} {e : Expr} {m : ME} {ms : List ME} {pos p : Pos} {rest : List Stmt} {x i : Nat}
end
end MM
namespace MM
open PySem L2
section
variable {K : PySem.W.Frag} {c : Cc} {g : Str → Option Value} {W : WX} {ρ ρ' : Ev} {σ σ' : St} {F F' H H' : Hp} {E E' T T' S S1 S2 : Addr → Prop} {v : V} {o : O} {u : U} {D : Ends}
end
section
variable {X : Cx} {c : Cc} {W : WX} {e eo ea eb : Expr} {ia ib : Ag} {m : ME} {pos p2 p3 : Pos} {i : Nat}
end
section
variable (K : PySem.W.Frag) (c : Cc)
end
section
variable {K : PySem.W.Frag} {c : Cc} {g : Str → Option Value} {W : WX} {ρ ρ' : Ev} {σ σ' : St} {F F' H H' : Hp} {E E' T T' S S1 S2 : Addr → Prop} {v : V} {o : O} {u : U} {D : Ends}
end
section
variable {X : Cx} {c : Cc} {W : WX} {e : Expr} {m : ME} {n n2 : MS} {t : Ev → R Bool} {st : Stmt} {pos p : Pos} {rest : List Stmt} {x i : Nat}
end
end MM
namespace MM
open PySem L2
section
variable {K : PySem.W.Frag} {c : Cc} {g : Str → Option Value} {W : WX} {ρ ρ' : Ev} {σ σ' : St} {F F' H H' : Hp} {E E' T T' S S1 S2 : Addr → Prop} {v : V} {o : O} {u : U} {Q : VK} {D : Ends}
end
section
variable {X : Cx} {c : Cc} {W : WX} {e e1 e2 eo ei : Expr} {a b idx : Ag} {m : ME} {pos p2 p3 p4 : Pos} {i : Nat}
end
section
variable {i : Nat} {a b : Ag} {ρ : Ev} {da db : Dn} {l : List (Int × Int)} {k z : Int}
end
end MM
namespace L2
open PySem PySem.Spec PyProof.Rows
section
variable {X : Cx} {x y n : Str} {c1 c2 : Value} {i : Nat} {body suite : List Stmt} {b₀ : Stmt} {np np2 tp pos pos' : Pos} {kk : Nat} {tb : WX → TS} {ts : Addr → Value → Option Addr → TS} {W0 : WX}
end
end L2
namespace MM
open PySem L2
section
variable {K : PySem.W.Frag} {c : Cc} {g : Str → Option Value} {W : WX} {ρ ρ' : Ev} {σ σ' : St} {F F' H H' : Hp} {E E' T T' S S1 S2 : Addr → Prop} {v : V} {o : O} {u : U} {D : Ends}
end
section
variable {K : PySem.W.Frag} {mg : Str → Option Value} {z1 z2 : Str}
end
section
variable {X : Cx} {c : Cc} {W : WX} {body suite ss : List Stmt} {b₀ : Stmt} {x y n : Str} {i kk : Nat} {hs : List (Str × Option MS)} {m : MS} {pos pos' np np2 tp : Pos}
end
end MM
namespace MM
open PySem L2
section
variable {prog : Program} {w : World} {A : Around} {E : Value → Shared → Prop} {s : Shared}
end
section
variable {X : Cx}
end
section
variable {K : PySem.W.Frag} {c : Cc} {g : Str → Option Value} {W : WX} {ρ ρ' : Ev} {σ σ' : St} {F F' H H' : Hp} {E E' T T' S S1 S2 : Addr → Prop} {v : V} {o : O} {u : U} {Q : VK} {D : Ends}
end
section
variable {X : Cx} {pins : List (Addr × Obj)} {σ : St} {H : Hp} {s : Shared} {a b : Addr} {L : List NE} {k : NestedKey} {v : V}
end
section
variable {K : PySem.W.Frag} {c : Cc} {g : Str → Option Value} {W : WX} {ρ ρ' : Ev} {σ σ' : St} {F F' H H' : Hp} {E E' T T' S S1 S2 : Addr → Prop} {v : V} {o : O} {u : U} {Q : VK} {D : Ends}
end
section
variable {X : Cx} {c : Cc} {W : WX} {e e1 e2 eo ei : Expr} {a b idx : Ag} {m : ME} {pos p2 p3 p4 : Pos} {i : Nat}
end
end MM
namespace MM
open PySem L2
section
variable {X : Cx} {c : Cc} {W : WX} {e : Expr} {st : Stmt} {m1 m2 : ME} {n1 n2 : MS} {i : Nat}
end
section
variable {K : PySem.W.Frag} {c : Cc} {g : Str → Option Value} {W : WX} {ρ ρ' : Ev} {σ σ' : St} {F F' H H' : Hp} {E E' T T' S S1 S2 : Addr → Prop} {v : V} {o : O} {u : U} {Q : VK} {D : Ends}
end
section
variable {X : Cx} {c : Cc} {W : WX} {e : Expr} {a : Ag} {p p2 q pos apos cpos : Pos}
end
end MM
namespace MM
open PySem L2
section
variable {K : PySem.W.Frag} {c : Cc} {g : Str → Option Value} {W : WX} {ρ ρ' : Ev} {σ σ' : St} {F F' H H' : Hp} {E E' T T' S S1 S2 : Addr → Prop} {v : V} {o : O} {u : U} {Q : VK} {D : Ends}
end
section
variable {X : Cx} {c : Cc} {W : WX} {e e1 e2 e3 eo ei tg : Expr} {a b idx : Ag} {m : ME} {pos p2 p3 p4 apos cpos : Pos} {i j : Nat}
end
end MM
namespace MM
open PySem L2
section
variable {K : PySem.W.Frag} {c : Cc} {g : Str → Option Value} {W : WX} {ρ ρ' : Ev} {σ σ' : St} {F F' H H' : Hp} {E E' T T' S S1 S2 : Addr → Prop} {v : V} {o : O} {u : U} {Q : VK} {D : Ends}
end
section
variable {X : Cx} {c : Cc} {W : WX} {e e1 e2 : Expr} {b : Ag} {m : ME} {pos apos : Pos}
end
end MM
namespace MM
open PySem L2
section
variable {X : Cx} {pins : List (Addr × Obj)} {σ : St} {H : Hp} {s : Shared}
end
section
variable {K : PySem.W.Frag} {F F' H H' : Hp} {v : V} {S : Addr → Prop}
end
section
variable {X : Cx} {pins : List (Addr × Obj)} {σ : St} {H : Hp} {s : Shared}
end
section
variable {X : Cx} {c : Cc} {W : WX} {mf : List O → R O} {as : List Ag} {n : Nat}
end
section
variable {X : Cx} {c : Cc} {W : WX} {e : Expr} {es : List Expr} {a : Ag} {as : List Ag} {pos p : Pos} {x : Str} {ps : List Str} {k : Nat} {mf : List O → R O}
end
end MM
namespace MM
open PySem L2
section
variable {K : PySem.W.Frag} {F F' H H' : Hp} {v : V} {S : Addr → Prop}
end
section
variable {X : Cx} {c : Cc} {W : WX} {mf : List O → R O} {as : List Ag} {n : Nat}
end
section
variable {X : Cx} {c : Cc} {W : WX} {e : Expr} {es : List Expr} {a : Ag} {as : List Ag} {pos p : Pos} {x : Str} {ps : List Str} {k : Nat} {mf : List O → R O}
end
def fRev (os xs : List O) : Option (O × List O) := match xs with
  | [] => match allSh os with
    | some us => some (.sh .none, shs us.reverse)
    | none => none
  | _ => none
theorem dqall_rev {K : PySem.W.Frag} {F : Hp} : ∀ {vs : List V} {us : List U}, DqAll K F vs us → DqAll K F vs.reverse us.reverse
  | [], _, d => by cases d; exact .nil
  | v :: vs, _, d => by
    cases d with
    | cons d ds =>
      rw [List.reverse_cons, List.reverse_cons]
      have app : ∀ {as : List V} {bs : List U}, DqAll K F as bs → DqAll K F (as ++ [v]) (bs ++ [_]) := fun {as bs} q => by
        induction as generalizing bs with
        | nil => cases q; exact .cons d .nil
        | cons a as ih =>
          cases q with
          | cons q1 q2 => exact .cons q1 (ih q2)
      exact app (dqall_rev ds)
theorem sv_rev {K : PySem.W.Frag} : ServesM K rReverse fRev := by
  intro F H p vs ys os xs S1 S2 o os' Q hp n1 n2 rs rx dj e k
  unfold fRev at e
  split at e
  · cases rx
    cases e2 : allSh os with
    | none => rw [e2] at e; cases e
    | some us =>
      rw [e2] at e
      cases e
      have dq := allSh_ok rs e2
      exact ⟨p, vs, rfl, rfl, hp, k .non _ ⟨Em, Em, .sh .non, shs_ok (dqall_rev dq), fun _ x => x.elim, fun _ x => x.elim, fun _ x _ => x⟩⟩
  · cases e
section
variable {X : Cx} {c : Cc} {W : WX} {e1 : Expr} {pos apos : Pos}
theorem x_rev (i : Nat) (ho : PE X e1 (tVar i))
    (hbase : attributeBase e1 "reverse" X.env (eval e1 X.env) = eval e1 X.env := by rfl) (hline : (apos.endLine == pos.line) = true := by rfl) :
    PM X c W (.Call (.Attribute e1 "reverse" apos) [] [] pos) (mMth i fRev []) :=
  pe_conv (pe_bm0 PySem.F.plainAttrs_list PySem.F.slot_list_reverse PySem.F.type_list_reverse mt_reverse ho hbase hline) fun σ H Q q => conv_mth0 sv_rev σ H Q q
end
end MM
set_option maxHeartbeats 4000000
namespace MM
open PySem L2 PyProof.Rows
section
variable {prog : Program} {w : World} {A : Around} {E : Value → Shared → Prop} {s : Shared} {a kS : Addr} {vs : List Value} {keys : Array Value} {e e1 : Nat} {P : PySem.Fin → Shared → Prop}
end
section
variable {X : Cx} {pins : List (Addr × Obj)} {σ : L2.St} {H : Hp} {s : Shared} {f : Addr} {fd : FuncData} {ps : List Str} {sp : Sp} {k : Nat}
end
section
variable {K : PySem.W.Frag} {c : Cc} {g : Str → Option Value} {W : WX} {mf : List O → R O}
end
section
variable {X : Cx} {c : Cc} {W : WX} {e : Expr} {a : Ag} {mf : List O → R O} {pos p p1 kpos : Pos} {y : Str} {ps : List Str} {k : Nat}
end
end MM
namespace MM
open PySem L2
section
variable {X : Cx} {c : Cc} {W : WX} {elt tg iter e : Expr} {ifs : List Expr} {scope : Scope} {own : List (Str × Nat)} {on : List Nat} {pos spos py : Pos} {t : Tg} {src : Ev → R (List U)} {test : Ev → R Bool} {m : ME} {y : Str} {i : Nat}
theorem s_setLcZ (i : Nat) (ho : own.map (·.2) = on) (hc : X.calm = true) (hN : X.N.Nodup) (hy : X.N[i]? = some y) (hyl : X.env.scope.names.lookup y = some .local) (hpi : c.pin i = none)
    (hsw : swapsWith (.ListComp elt [⟨tg, iter, ifs, 0⟩] scope pos) (some (.Name y py)) spos.line X.env = pure true) (hi : PIM X c W tg iter src) (ok : BlkOk X.N X.env.scope scope own)
    (hg : ∀ (s : Shared) (H : Hp) (C : Addr) (cl : List (Str × Addr)) (fp : List Addr), PG (X.blk s H scope (compEnvC scope cl C X.env) fp) tg (gTg X.K t)) (ht : ∀ (s : Shared) (H : Hp) (C : Addr) (cl : List (Str × Addr)) (fp : List Addr), PTsM (X.blk s H scope (compEnvC scope cl C X.env) fp) c WF ifs test)
    (he : ∀ (s : Shared) (H : Hp) (C : Addr) (cl : List (Str × Addr)) (fp : List Addr), PM (X.blk s H scope (compEnvC scope cl C X.env) fp) c WF elt m)
    (hp : ∀ i, i ∈ on → c.pin i = none) (hs : ∀ i, i ∈ t.slots → i ∈ on) (hf : t.free c) (hfs : ∀ x, foldedSetIterable iter X.env x = pure x := by intro _; rfl) :
    PSM X c W (.Assign [.Name y py] (.ListComp elt [⟨tg, iter, ifs, 0⟩] scope pos) spos) (sSet i (mFrz (mLc t on src test m))) := by
  subst ho
  exact ps_conv (ps_setLc hc hN hy hyl hsw hi ok hg ht he hfs) fun D σ H q => conv_lc hp hs hf σ H _ (conv_frz σ H _ (conv_set hpi σ H q))
end
end MM
namespace PySem
namespace HandSPX
section
variable {M : Model} {A : Around} {E : Value → Shared → Prop} {s : Shared} {Z : Obj → Prop} {base : Heap} {env : Env} {outer : List Env} {L C e : Addr}
end
end HandSPX
end PySem
namespace L2
open PySem PySem.Spec PyProof.Rows
section
variable {X : Cx} {pins : List (Addr × Obj)} {σ : St} {H : Hp} {s s' : Shared}
end
end L2
namespace MM
open PySem L2
section
variable {K : PySem.W.Frag} {c : Cc} {g : Str → Option Value} {W : WX} {ρ ρ' : Ev} {σ σ' : St} {F F' H H' : Hp} {E E' T T' S S1 S2 : Addr → Prop} {v : V} {o : O} {u : U} {Q : VK}
end
section
variable {X : Cx} {c : Cc} {W : WX} {elt tg iter e : Expr} {ifs : List Expr} {scope : Scope} {own : List (Str × Nat)} {on : List Nat} {pos spos py : Pos} {t : Tg} {src : Ev → R (List U)} {test : Ev → R Bool} {m : ME} {y : Str} {i : Nat}
end
end MM
namespace MM
open PySem L2
section
variable {X : Cx} {K : PySem.W.Frag} {c : Cc} {g : Str → Option Value} {W : WX} {ρ : Ev}
end
end MM
namespace MM
open PySem PySem.Spec L2
section
variable {K : PySem.W.Frag} {F F' H H' : Hp} {v : V} {o : O}
end
section
variable {X : Cx} {pins : List (Addr × Obj)} {σ : St} {H : Hp} {s : Shared}
end
section
variable {K : PySem.W.Frag} {c : Cc} {g : Str → Option Value} {W : WX} {ρ ρ' : Ev} {σ σ' : St} {F F' H H' : Hp} {E E' T T' S S1 S2 : Addr → Prop} {v : V} {o : O} {u : U} {Q : VK} {D : Ends}
end
section
variable {X : Cx} {c : Cc} {W : WX} {e e1 e2 it elt tg : Expr} {a b : Ag} {m n0 : ME} {n : MS} {p p2 pos pos2 : Pos} {x : Str} {i : Nat} {src : Ev → R (List O)} {test : Ev → R Bool}
end
end MM
namespace MM
open PySem L2
section
variable {K : PySem.W.Frag} {F F' H H' : Hp} {v : V} {S : Addr → Prop}
end
section
variable {X : Cx} {c : Cc} {W : WX} {mf : List O → R O} {as : List Ag} {n : Nat}
end
section
variable {X : Cx} {c : Cc} {W : WX} {e : Expr} {es : List Expr} {a : Ag} {as : List Ag} {pos p : Pos} {x : Str} {ps : List Str} {k : Nat} {mf : List O → R O}
end
end MM
namespace L2
open PySem PySem.Spec PyProof.Rows
section
variable {X : Cx} {pins : List (Addr × Obj)} {σ : St} {H : Hp} {s : Shared}
end
end L2
namespace MM
open PySem L2
section
variable {K : PySem.W.Frag} {c : Cc} {g : Str → Option Value} {W : WX} {ρ ρ' : Ev} {σ σ' : St} {F F' H H' : Hp} {E E' T T' S S1 S2 : Addr → Prop} {v : V} {o : O} {u : U} {Q : VK}
def LtA (H : Hp) (S0 : Addr → Prop) (a : Addr) : Prop := (∃ xs, H a = some (.lst xs)) ∨ ∃ xs b ys, H a = some (.tup xs) ∧ V.ref b ∈ xs ∧ S0 b ∧ H b = some (.lst ys)
theorem LtA.mono {A B : Addr → Prop} {a : Addr} (h : LtA H A a) (k : ∀ b, A b → B b) : LtA H B a := by
  rcases h with h | ⟨xs, b, ys, h1, h2, h3, h4⟩
  · exact .inl h
  · exact .inr ⟨xs, b, ys, h1, h2, k b h3, h4⟩
end
section
variable {X : Cx} {c : Cc} {W : WX} {elt tg iter e : Expr} {ifs : List Expr} {scope : Scope} {own : List (Str × Nat)} {on : List Nat} {pos spos py : Pos} {t : Tg} {src : Ev → R (List U)} {test : Ev → R Bool} {m : ME} {y : Str} {i : Nat}
end
end MM
namespace MM
open PySem L2 L2H
structure FnQ (P : Program) (w : World) (K : PySem.W.Frag) (mg : Str → Option Value) (base : Heap) (k : Nat) (f : Addr) (fd : FuncData) (ps : List Str) (n : Nat) (C : Addr) (mf : List O → R O) : Prop where
  run : ∀ (A : Around) (outer : List Env) (s : Shared) (H : Hp) (args : Args) (us : List Value) (vs : List V) (Q : VK) (E : XK) (p : Addr × Obj), RoomH k A → PinOk outer H s p → PinZ C p → Env0 P w K mg base A outer s H → BindsTo s fd args (ps.zip us) → Vals vs us → spD K mg n (.ref p.1) mf vs H Q E →
    codeAny (model P w) A (.call (.ref f) args) (CR (L2.CX P w) outer P w H s Q E) s
structure CalQ (P : Program) (w : World) (K : PySem.W.Frag) (mg : Str → Option Value) (base : Heap) (x : Str) (ps : List Str) (k n : Nat) (cl : Str) (mf : List O → R O) : Prop where
  ex : ∃ (f : Addr) (fd : FuncData), mg x = some (.ref f) ∧ PySem.W.keepIn K (.ref f) = true ∧ Binds K fd ps [] ∧ ps.length = n + 1 ∧ ∀ C, mg cl = some (.ref C) → FnQ P w K mg base k f fd ps n C mf
section
variable {P : Program} {w : World} {K : PySem.W.Frag} {mg : Str → Option Value} {base : Heap} {x cl : Str} {N ps : List Str} {k j n : Nat} {st : Stmt}
theorem CalQ.mono {mf : List O → R O} (C : CalQ P w K mg base x ps j n cl mf) (h : j ≤ k) : CalQ P w K mg base x ps k n cl mf :=
  let ⟨f, fd, h1, h2, h3, h4, h5⟩ := C.ex
  ⟨f, fd, h1, h2, h3, h4, fun D hD => ⟨fun A outer s H args us vs Q E p hr => (h5 D hD).run A outer s H args us vs Q E p (hr.mono h)⟩⟩
end
section
variable {X : Cx} {c : Cc} {W : WX} {y cl e0 : Str} {a C : Addr} {oe : Obj} {pos p p1 p2 : Pos} {b : Bool} {i : Nat}
end
section
variable {X : Cx} {c : Cc} {W : WX} {e0 cl x : Str} {a C : Addr} {oe : Obj} {e1 : Expr} {es : List Expr} {as : List Ag} {pos p p1 : Pos} {ps : List Str} {i k n : Nat} {mf : List O → R O}
end
end MM
namespace MM
open PySem L2
section
variable {K : PySem.W.Frag} {c : Cc} {g : Str → Option Value} {W : WX} {F H : Hp} {σ : St}
end
section
variable {X : Cx} {c : Cc} {W : WX} {e e1 e2 : Expr} {a b : Ag} {m : ME} {pos p p2 : Pos} {x : Str}
end
end MM
namespace MM
open PySem L2
section
variable {X : Cx} {c : Cc} {W : WX} {x m : Str} {us : List U} {p pos apos : Pos} {k i n lv : Nat} {mf : List O → R O} {as : List Ag} {o e eo : Expr} {es : List Expr} {ps : List Str} {C f : Addr} {fd : FuncData} {sp : Sp} {CX : CXT} {B : St → XK} {ta : TE} {t : TA}
end
section
variable {K : PySem.W.Frag} {c : Cc} {g : Str → Option Value} {W : WX} {D : Ends}
end
section
variable {X : Cx} {c : Cc} {W : WX} {eo : Expr} {f : Str} {k i j : Nat} {n : Int} {pos tpos p3 : Pos}
end
end MM
namespace MM
open PySem L2
section
variable {X : Cx} {c : Cc} {W : WX} {x y : Str} {p pos apos : Pos} {k n lv : Nat} {m : ME} {mf : List O → R O} {as : List Ag} {e eo : Expr} {es : List Expr} {ps : List Str}
variable {K : PySem.W.Frag} {g : Str → Option Value} {ρ : Ev} {σ : St} {F H : Hp} {E T : Addr → Prop} {Q : VK}
end
section
variable {X : Cx} {c : Cc} {W : WX} {x : Str} {pos apos : Pos} {k lv : Nat} {m : ME} {mf : List O → R O} {as : List Ag} {e eo : Expr} {es : List Expr} {ps : List Str}
end
end MM
namespace MM
open PySem L2
section
variable {K : PySem.W.Frag} {c : Cc} {g : Str → Option Value} {W : WX} {F H : Hp}
end
section
variable {X : Cx} {c : Cc} {W : WX} {e o f : Expr} {es : List Expr} {a b : Ag} {as : List Ag} {apos pos p1 p2 : Pos} {j k : Nat} {y z : Str}
end
section
open L2H
variable {P : Program} {w : World} {K : PySem.W.Frag} {mg : Str → Option Value} {base : Heap} {x cl : Str} {N ps : List Str} {k j n : Nat} {st : Stmt}
end
end MM
namespace MM
open PySem L2
section
variable {K : PySem.W.Frag} {c : Cc} {g : Str → Option Value} {W : WX} {ρ ρ' : Ev} {σ σ' : St} {F F' H H' : Hp} {E E' T T' S S1 S2 : Addr → Prop} {v : V} {o : O} {u : U} {Q : VK} {D : Ends}
theorem DGet.rd {a : Addr} {kvs : List (Key × V)} {k : Key} (e : Rd H a (.dK kvs)) : DGet H a (kV k) (valV kvs k) := .inl ⟨kvs, k, e, rfl, rfl⟩
end
section
variable {X : Cx} {c : Cc} {W : WX} {e1 e2 eo tg : Expr} {a b : Ag} {pos : Pos} {i : Nat}
end
end MM
namespace MM
open PySem L2
def fIns (os xs : List O) : Option (O × List O) := match xs with
  | [.sh (.int i), x] => if os.length < 16777216 ∧ 0 ≤ i ∧ i < 9223372036854775808 then some (.sh .none, os.take i.toNat ++ x :: os.drop i.toNat) else none
  | _ => none
def rInsL : V → List V → Hp → VK → Prop := fun x vs H Q => ∃ (l : Addr) (xs : List V) (i : Int) (y : V), x = .ref l ∧ vs = [.int i, y] ∧ H l = some (.lst xs) ∧ xs.length < sizeLine ∧ 0 ≤ i ∧ i < 2 ^ 63 ∧ Q .non (upd H l (.lst (xs.take i.toNat ++ [y] ++ xs.drop i.toNat)))
section
variable {K : PySem.W.Frag} {c : Cc} {g : Str → Option Value} {W : WX} {ρ ρ' : Ev} {σ σ' : St} {F F' H H' : Hp} {E E' T T' S S1 S2 : Addr → Prop} {v : V} {o : O} {u : U} {D : Ends}
theorem RpOs.ins : ∀ {vs : List V} {os : List O} {v : V} {o : O} {S1 S2 : Addr → Prop} (n : Nat), RpOs K F H vs os S1 → RpO K F H v o S2 → (∀ a, S1 a → S2 a → False) → RpOs K F H (vs.take n ++ v :: vs.drop n) (os.take n ++ o :: os.drop n) (fun a => S1 a ∨ S2 a)
  | _, _, _, _, _, _, 0, rs, r, d => .cons r rs (fun a x => .inr x) (fun a x => .inl x) fun a x y => d a y x
  | [], [], _, _, _, _, n + 1, .nil, r, d => .cons r .nil (fun a x => .inr x) (fun a x => .inl x) fun a x y => d a y x
  | w :: vs, x :: os, _, _, _, _, n + 1, .cons (S1 := A1) (S2 := A2) q qs s1 s2 dd, r, d => by
    refine .cons q (RpOs.ins n qs r fun a x y => d a (s2 a x) y) (fun a x => .inl (s1 a x)) (fun a x => ?_) (fun a x y => ?_)
    · rcases x with x | x
      · exact .inl (s2 a x)
      · exact .inr x
    · rcases y with y | y
      · exact dd a x y
      · exact d a (s1 a x) y
theorem sv_ins : ServesM K rInsL fIns := by
  intro F H p vs ys os xs S1 S2 o os' Q hp n1 n2 rs rx dj e k
  unfold fIns at e
  split at e
  · rename_i i x
    split at e
    · rename_i hz
      cases e
      cases rx with
      | cons ri rt0 t1 t2 d0 =>
        cases ri with
        | sh di =>
          cases di
          cases rt0 with
          | cons r rt s1 s2 dd =>
            cases rt
            rename_i B1 y A1 A2
            have n3 : ¬ A1 p := fun z => n2 (t2 _ (s1 _ z))
            refine ⟨p, vs, i, y, rfl, rfl, hp, by rw [rs.len, line_eq]; exact hz.1, hz.2.1, by have := hz.2.2; omega, k .non _ ⟨Em, fun a => S1 a ∨ A1 a, .sh .non, ?_, fun _ x => x.elim, fun a x => x.imp id fun z => t2 a (s1 a z), fun _ x _ => x⟩⟩
            rw [List.append_assoc]
            exact RpOs.ins i.toNat (rs.frame (Same.refl F) (upd_frame n1)) (r.frame (Same.refl F) (upd_frame n3)) fun a x y => dj a x (t2 a (s1 a y))
    · cases e
  · cases e
end
section
variable {X : Cx} {c : Cc} {W : WX} {e e1 e2 e3 : Expr} {a : Ag} {as : List Ag} {p p2 q pos apos : Pos}
theorem mt_insL : MtR X "list.insert" rInsL := mt_insert
theorem x_ins (i : Nat) (ho : PE X e1 (tVar i)) (ha : PAM X c W [e2, e3] as)
    (hbase : attributeBase e1 "insert" X.env (eval e1 X.env) = eval e1 X.env := by rfl)
    (hfew : ((backTo pos (starEach [e2, e3] X.env)).all (fun x => !x.1) && (backToKw pos (keywordEach [] X.env)).all (fun x => x.1.isSome)
      && decide (([e2, e3] : List Expr).length + ([] : List Keyword).length + (if ([] : List Keyword).isEmpty then 0 else 1) < 30)) = true := by rfl)
    (hline : (apos.endLine == pos.line) = true := by rfl) (hs : starEach [e2, e3] X.env = (false, eval e2 X.env) :: starEach [e3] X.env := by rfl) (hplain : (backTo pos (starEach [e3] X.env)).any (·.1) = false := by rfl) :
    PM X c W (.Call (.Attribute e1 "insert" apos) [e2, e3] [] pos) (mMth i fIns as) :=
  pe_conv (pe_bm PySem.F.plainAttrs_list PySem.F.slot_list_insert PySem.F.type_list_insert mt_insL ho ha hbase hfew hline hs hplain) fun σ H Q q => conv_mth sv_ins σ H Q q
end
section
variable {K : PySem.W.Frag} {c : Cc} {g : Str → Option Value} {W : WX} {ρ ρ' : Ev} {σ σ' : St} {F F' H H' : Hp} {E E' T T' S S1 S2 : Addr → Prop} {v : V} {o : O} {u : U} {D : Ends}
theorem RpOs.out2 : ∀ {vs : List V} {os : List O} {S : Addr → Prop} {k : Nat} {o : O}, RpOs K F H vs os S → os[k]? = some o →
    ∃ (v : V) (Sk R : Addr → Prop), vs[k]? = some v ∧ RpO K F H v o Sk ∧ (∀ a, Sk a → S a) ∧ (∀ a, R a → S a) ∧ (∀ a, Sk a → R a → False) ∧
      ∀ (F' H' : Hp) (v' : V) (o' : O) (Sk' : Addr → Prop), Same F F' → (∀ a, R a → H' a = H a) → RpO K F' H' v' o' Sk' → (∀ a, Sk' a → R a → False) → RpOs K F' H' (vs.set k v') (os.set k o') (fun a => Sk' a ∨ R a)
  | _, _, _, _, _, .nil, e => by simp at e
  | w :: vs, x :: os, S, 0, o, .cons (S1 := A1) (S2 := A2) q qs s1 s2 dd, e => by
    simp only [List.getElem?_cons_zero, Option.some.injEq] at e
    subst e
    exact ⟨w, A1, A2, rfl, q, s1, s2, dd, fun F' H' v' o' Sk' f k r d => .cons r (qs.frame f k) (fun a x => .inl x) (fun a x => .inr x) d⟩
  | w :: vs, x :: os, S, k + 1, o, .cons (S1 := A1) (S2 := A2) q qs s1 s2 dd, e => by
    obtain ⟨v, Sk, R, h1, h2, h3, h4, h5, h6⟩ := RpOs.out2 (k := k) qs (by simpa using e)
    refine ⟨v, Sk, fun a => A1 a ∨ R a, by simpa using h1, h2, fun a x => s2 a (h3 a x), fun a x => x.elim (s1 a) fun y => s2 a (h4 a y), fun a x y => ?_, fun F' H' v' o' Sk' f kk r d => ?_⟩
    · rcases y with y | y
      · exact dd a y (h3 a x)
      · exact h5 a x y
    · refine .cons (q.frame f fun a x => kk a (.inl x)) (h6 F' H' v' o' Sk' f (fun a x => kk a (.inr x)) r fun a x y => d a x (.inr y)) (fun a x => .inr (.inl x)) (fun a x => x.elim .inl fun y => .inr (.inr y)) fun a x y => ?_
      rcases y with y | y
      · exact d a y (.inl x)
      · exact dd a x (h4 a y)
def Cc.at_ (c : Cc) (F H : Hp) (E : Addr → Prop) (L : List (Nat × V)) : Cc := ⟨H, F, E, fun i => match L.lookup i with
  | some v => some v
  | none => c.pin i⟩
theorem MI.enter (M : MI K c ρ σ F H E T) (L : List (Nat × V)) (hL : ∀ i v, L.lookup i = some v → σ[i]? = some (some v)) : MI K (c.at_ F H E L) ρ σ F H E Em := by
  refine ⟨M.ff, Same.refl F, fun a o h _ => h, fun a h => .inl h, M.env, fun a x => ?_, fun _ _ x => x, fun i v h => ?_⟩
  · rcases x with x | x
    · have q := M.own a (.inl x)
      exact ⟨q.1, q.2.1, .inr x⟩
    · exact x.elim
  · unfold Cc.at_ at h
    simp only at h
    cases e : L.lookup i with
    | none => rw [e] at h; exact M.pins i v h
    | some w => rw [e] at h; cases h; exact hL i _ e
theorem MI.leave {L : List (Nat × V)} (M : MI K c ρ σ F H E T) (hL : ∀ i v w, L.lookup i = some v → c.pin i = some w → v = w) (M' : MI K (c.at_ F H E L) ρ' σ' F' H' E' Em) :
    MI K c ρ' σ' F' H' E' T ∧ Same F F' ∧ (∀ a, T a → H' a = H a) ∧ ∀ i v, L.lookup i = some v → σ'[i]? = some (some v) := by
  have hff : Same F F' := M'.f0
  have kp : ∀ a o, H a = some o → ¬ E a → H' a = some o := M'.keep
  have kT : ∀ a, T a → H' a = H a := fun a x => by
    have q := M.own a (.inr x)
    cases e : H a with
    | none => exact absurd e q.2.1
    | some o => exact kp a o e fun z => M.dj a z x
  have old : ∀ a, H a = none ∨ E a → c.H0 a = none ∨ c.S0 a := fun a x => by
    rcases x with x | x
    · cases e : c.H0 a with
      | none => exact .inl rfl
      | some o =>
        by_cases hs : c.S0 a
        · exact .inr hs
        · rw [M.keep a o e hs] at x; cases x
    · exact (M.own a (.inl x)).2.2
  have new : ∀ a, E' a → T a → False := fun a x y => by
    rcases (M'.own a (.inl x)).2.2 with z | z
    · exact (M.own a (.inr y)).2.1 z
    · exact M.dj a z y
  refine ⟨⟨M'.ff, M.f0.trans hff, fun a o h hs => kp a o (M.keep a o h hs) fun z => ?_, fun a h => ?_, M'.env, fun a x => ?_, new, fun i v h => ?_⟩, hff, kT, fun i v h => ?_⟩
  · rcases (M.own a (.inl z)).2.2 with y | y
    · rw [h] at y; cases y
    · exact hs y
  · rcases M'.fnew a h with z | z | z
    · exact M.fnew a z
    · exact .inr (old a (.inl z))
    · exact .inr (old a (.inr z))
  · rcases x with x | x
    · have q := M'.own a (.inl x)
      exact ⟨q.1, q.2.1, old a q.2.2⟩
    · have q := M.own a (.inr x)
      refine ⟨?_, by rw [kT a x]; exact q.2.1, q.2.2⟩
      cases e : F' a with
      | none => rfl
      | some o =>
        rcases M'.fnew a (by rw [e]; simp) with z | z | z
        · exact absurd q.1 z
        · exact absurd z q.2.1
        · exact (M.dj a z x).elim
  · refine M'.pins i v ?_
    show (match L.lookup i with
      | some v => some v
      | none => c.pin i) = some v
    cases e : L.lookup i with
    | none => exact h
    | some w => rw [hL i w v e h]
  · refine M'.pins i v ?_
    show (match L.lookup i with
      | some v => some v
      | none => c.pin i) = some v
    rw [h]
end
structure AL (K : PySem.W.Frag) (c : Cc) (f a b : Nat) (os : List O) (j : Nat) (pf p ra rb : Addr) (vs : List V) (R : Addr → Prop) (ρ : Ev) (σ : St) (F H : Hp) (E : Addr → Prop) : Prop where
  M : MI K c ρ σ F H E (fun x => (x = pf ∨ x = p) ∨ R x)
  sf : σ[f]? = some (some (.ref pf))
  sa : σ[a]? = some (some (.ref ra))
  sb : σ[b]? = some (some (.ref rb))
  hf : H pf = some (.lst vs)
  hp : H p = some (.tup [.ref ra, .ref rb])
  hj : vs[j]? = some (.ref p)
  ln : vs.length = os.length
  n1 : pf ≠ p
  n2 : ¬ R pf
  n3 : ¬ R p
  out : ∀ (F' H' : Hp) (v' : V) (o' : O) (Sk' : Addr → Prop), Same F F' → (∀ a, R a → H' a = H a) → RpO K F' H' v' o' Sk' → (∀ a, Sk' a → R a → False) → RpOs K F' H' (vs.set j v') (os.set j o') (fun a => Sk' a ∨ R a)
section
variable {K : PySem.W.Frag} {c : Cc} {g : Str → Option Value} {W : WX} {ρ ρ' : Ev} {σ σ' : St} {F F' H H' : Hp} {E E' T T' S S1 S2 R : Addr → Prop} {v : V} {o : O} {u : U} {D : Ends} {f a b j : Nat} {os : List O} {vs : List V} {pf p ra rb : Addr}
theorem AL.move (A : AL K c f a b os j pf p ra rb vs R ρ σ F H E) (M : MI K c ρ' σ' F' H' E' (fun x => (x = pf ∨ x = p) ∨ R x)) (hF : Same F F') (hH : ∀ x, ((x = pf ∨ x = p) ∨ R x) → H' x = H x)
    (e1 : σ'[f]? = σ[f]?) (e2 : σ'[a]? = σ[a]?) (e3 : σ'[b]? = σ[b]?) : AL K c f a b os j pf p ra rb vs R ρ' σ' F' H' E' :=
  ⟨M, by rw [e1]; exact A.sf, by rw [e2]; exact A.sa, by rw [e3]; exact A.sb, by rw [hH pf (.inl (.inl rfl))]; exact A.hf, by rw [hH p (.inl (.inr rfl))]; exact A.hp, A.hj, A.ln, A.n1, A.n2, A.n3,
    fun F2 H2 v' o' Sk' f2 k2 r d => A.out F2 H2 v' o' Sk' (hF.trans f2) (fun x z => (k2 x z).trans (hH x (.inr z))) r d⟩
theorem AL.setj (A : AL K c f a b os j pf p ra rb vs R ρ σ F H E) : vs.set j (.ref p) = vs := by
  apply List.ext_getElem?
  intro i
  by_cases hi : j = i
  · subst hi
    have hl : j < vs.length := by
      rcases Nat.lt_or_ge j vs.length with z | z
      · exact z
      · have := A.hj
        rw [List.getElem?_eq_none z] at this; cases this
    rw [List.getElem?_set_self hl, A.hj]
  · rw [List.getElem?_set_ne hi]
theorem AL.pair (A : AL K c f a b os j pf p ra rb vs R ρ σ F H E) {xs ys : List O} (hab : a ≠ b) (M : MI K c ρ' σ F' H' E' (fun x => ((x = pf ∨ x = p) ∨ R x) ∨ S x)) (dj : ∀ x, ((x = pf ∨ x = p) ∨ R x) → S x → False)
    (hp : H' p = H p) (ea : ρ'[a]? = some (some (.ol xs))) (eb : ρ'[b]? = some (some (.ol ys))) :
    ∃ E2 Z, MI K c ((ρ'.set a none).set b none) σ F' H' E2 (fun x => ((x = pf ∨ R x) ∨ S x) ∨ Z x) ∧ RpO K F' H' (.ref p) (.ot [.ol xs, .ol ys]) Z ∧ (∀ x, ((x = pf ∨ R x) ∨ S x) → Z x → False) := by
  obtain ⟨v1, Sa, E1, h1, r1, M1, d1⟩ := M.take ea
  rw [A.sa] at h1
  cases h1
  obtain ⟨v2, Sb, E2, h2, r2, M2, d2⟩ := M1.take (i := b) (o := .ol ys) (by rw [List.getElem?_set_ne hab]; exact eb)
  rw [A.sb] at h2
  cases h2
  refine ⟨E2, fun x => x = p ∨ (Sa x ∨ Sb x), M2.less fun x z => ?_, .ot (by rw [hp]; exact A.hp) (.inl rfl) (.cons r1 (.cons r2 (.nil (S := Em)) (fun x z => z) (fun x z => z.elim) fun x _ z => z) (fun x z => .inl z) (fun x z => .inr z) fun x z1 z2 => d2 x (.inr z1) z2) (fun x z => .inr z) fun z => ?_, fun x z1 z2 => ?_⟩
  · rcases z with ((z | z) | z) | z | z | z
    · exact .inl (.inl (.inl (.inl (.inl z))))
    · exact .inl (.inl (.inl (.inr z)))
    · exact .inl (.inl (.inr z))
    · exact .inl (.inl (.inl (.inl (.inr z))))
    · exact .inl (.inr z)
    · exact .inr z
  · rcases z with z | z
    · exact d1 p (.inl (.inl (.inr rfl))) z
    · exact d2 p (.inl (.inl (.inl (.inr rfl)))) z
  · have z1' : ((x = pf ∨ x = p) ∨ R x) ∨ S x := by
      rcases z1 with (z1 | z1) | z1
      · exact .inl (.inl (.inl z1))
      · exact .inl (.inr z1)
      · exact .inr z1
    rcases z2 with z2 | z2 | z2
    · subst z2
      rcases z1 with (z1 | z1) | z1
      · exact A.n1 z1.symm
      · exact A.n3 z1
      · exact dj x (.inl (.inr rfl)) z1
    · exact d1 x z1' z2
    · exact d2 x (.inl z1') z2
end
abbrev BS := List O → Nat → MS
section
variable (K : PySem.W.Frag) (c : Cc) (g : Str → Option Value) (W : WX) (f a b : Nat)
def tB (m : BS) : TS := fun D σ H => ∃ os j ρ F E pf p ra rb vs R, AL K c f a b os j pf p ra rb vs R ρ σ F H E ∧ GotS K c g W D F (m os j ρ)
end
abbrev PBM (X : Cx) (c : Cc) (W : WX) (f a b : Nat) (st : Stmt) (m : BS) : Prop := PS X st (tB X.K c X.mg W f a b m)
abbrev PBsM (X : Cx) (c : Cc) (W : WX) (f a b : Nat) (st : List Stmt) (m : BS) : Prop := PSs X st (tB X.K c X.mg W f a b m)
def bStep (m : MS) (n : BS) : BS := fun os j ρ => match m ρ with
  | .nx ρ1 => n os j ρ1
  | _ => .bad
def bIf (t : Ev → R Bool) (m n : BS) : BS := fun os j ρ => match t ρ with
  | .ok true ρ1 => m os j ρ1
  | .ok false ρ1 => n os j ρ1
  | _ => .bad
def olOf (i : Nat) (ρ : Ev) : Option (List O) := match ρ[i]? with
  | some (some (.ol xs)) => some xs
  | _ => none
theorem olOf_ok {i : Nat} {ρ : Ev} {xs : List O} (h : olOf i ρ = some xs) : ρ[i]? = some (some (.ol xs)) := by
  unfold olOf at h
  split at h
  · cases h; assumption
  · cases h
def bBack (f a b : Nat) : BS := fun os j ρ => match olOf a ρ with
  | some xs => match olOf b ρ with
    | some ys => .nx (((ρ.set a none).set b none).set f (some (.ol (os.set j (.ot [.ol xs, .ol ys])))))
    | none => .bad
  | none => .bad
def bApp (f a b : Nat) (m : ME) : BS := fun os j ρ => match m ρ with
  | .ok o ρ1 => match olOf a ρ1 with
    | some xs => match olOf b ρ1 with
      | some ys => if os.length < 16777216 then .nx (((ρ1.set a none).set b none).set f (some (.ol (os.set j (.ot [.ol xs, .ol ys]) ++ [o])))) else .bad
      | none => .bad
    | none => .bad
  | _ => .bad
def bPut (f i : Nat) (m : ME) : BS := fun os j ρ => match m ρ with
  | .ok o ρ1 => match ρ1[i]? with
    | some (some (.sh (.int k))) => if ixN os.length k = some j then .nx (ρ1.set f (some (.ol (os.set j o)))) else .bad
    | _ => .bad
  | _ => .bad
def bEnd (m : BS) (n : MS) : BS := fun os j ρ => match m os j ρ with
  | .nx ρ1 => n ρ1
  | r => r
def sOpen (f i a b : Nat) (n : BS) : MS := fun ρ => if a < ρ.length ∧ b < ρ.length then (match ρ[f]? with
  | some (some (.ol os)) => match ρ[i]? with
    | some (some (.sh (.int k))) => match ixN os.length k with
      | some j => match os[j]? with
        | some (.ot [.ol xs, .ol ys]) => n os j (((ρ.set f none).set a (some (.ol xs))).set b (some (.ol ys)))
        | _ => .bad
      | none => .bad
    | _ => .bad
  | _ => .bad) else .bad
section
variable {X : Cx} {c : Cc} {W : WX} {f a b i : Nat} {st : Stmt} {rest s1 s2 : List Stmt} {m n : BS} {e e1 e2 eo ei : Expr} {t : Ev → R Bool} {pos p2 apos : Pos}
theorem b_step {m : MS} (h : ∀ c' : Cc, (∀ i, i ≠ f → i ≠ a → i ≠ b → c'.pin i = c.pin i) → PSM X c' W st m) (pf0 : c.pin f = none) (pa0 : c.pin a = none) (pb0 : c.pin b = none) (hfa : f ≠ a) (hfb : f ≠ b) (hab : a ≠ b) (h2 : PBsM X c W f a b rest n) : PBsM X c W f a b (st :: rest) (bStep m n) := by
  refine ⟨fun pins s σ H D I q => ?_⟩
  obtain ⟨os, j, ρ, F, E, pf, p, ra, rb, vs, R, A, q⟩ := q
  let L : List (Nat × V) := [(f, .ref pf), (a, .ref ra), (b, .ref rb)]
  have lk : ∀ i v, L.lookup i = some v → (i = f ∧ v = .ref pf) ∨ (i = a ∧ v = .ref ra) ∨ (i = b ∧ v = .ref rb) := fun i v h => by
    simp only [L, List.lookup_cons, List.lookup_nil] at h
    split at h
    · rename_i z; cases h; exact .inl ⟨by simpa using z, rfl⟩
    · split at h
      · rename_i z; cases h; exact .inr (.inl ⟨by simpa using z, rfl⟩)
      · split at h
        · rename_i z; cases h; exact .inr (.inr ⟨by simpa using z, rfl⟩)
        · cases h
  have hL : ∀ i v, L.lookup i = some v → σ[i]? = some (some v) := fun i v h => by
    rcases lk i v h with ⟨rfl, rfl⟩ | ⟨rfl, rfl⟩ | ⟨rfl, rfl⟩
    · exact A.sf
    · exact A.sa
    · exact A.sb
  have M1 := A.M.enter L hL
  have hc : ∀ i, i ≠ f → i ≠ a → i ≠ b → (c.at_ F H E L).pin i = c.pin i := fun i z1 z2 z3 => by
    show (match L.lookup i with
      | some v => some v
      | none => c.pin i) = c.pin i
    cases e : L.lookup i with
    | none => rfl
    | some v =>
      rcases lk i v e with ⟨w, _⟩ | ⟨w, _⟩ | ⟨w, _⟩
      · exact absurd w z1
      · exact absurd w z2
      · exact absurd w z3
  have hpin : ∀ i v w, L.lookup i = some v → c.pin i = some w → v = w := fun i v w h z => by
    rcases lk i v h with ⟨rfl, _⟩ | ⟨rfl, _⟩ | ⟨rfl, _⟩
    · rw [pf0] at z; cases z
    · rw [pa0] at z; cases z
    · rw [pb0] at z; cases z
  have l1 : L.lookup f = some (.ref pf) := by simp [L, List.lookup_cons]
  have l2 : L.lookup a = some (.ref ra) := by
    have : (a == f) = false := by simpa using Ne.symm hfa
    simp [L, List.lookup_cons, this]
  have l3 : L.lookup b = some (.ref rb) := by
    have z1 : (b == f) = false := by simpa using Ne.symm hfb
    have z2 : (b == a) = false := by simpa using Ne.symm hab
    simp [L, List.lookup_cons, z1, z2]
  refine (pss_cons (h (c.at_ F H E L) hc) h2).run pins s σ H D I ⟨ρ, F, E, M1, ?_⟩
  unfold bStep at q
  cases e : m ρ with
  | nx ρ1 =>
    rw [e] at q
    intro σ' F' H' E' _ M'
    obtain ⟨M2, hF, hT, hl⟩ := A.M.leave hpin M'
    exact ⟨os, j, ρ1, F', E', pf, p, ra, rb, vs, R, A.move M2 hF hT (by rw [hl f _ l1, A.sf]) (by rw [hl a _ l2, A.sa]) (by rw [hl b _ l3, A.sb]), GotS.up q hF⟩
  | rt _ _ => rw [e] at q; exact q.elim
  | bk _ => rw [e] at q; exact q.elim
  | ct _ => rw [e] at q; exact q.elim
  | exc _ _ => rw [e] at q; exact q.elim
  | bad => rw [e] at q; exact q.elim
theorem b_one (h : PBM X c W f a b st m) : PBsM X c W f a b [st] m := pss_one h
theorem b_if (ht : PTM X c W e t) (h1 : PBsM X c W f a b s1 m) (h2 : PBsM X c W f a b s2 n) : PBM X c W f a b (.If e s1 s2 pos) (bIf t m n) :=
  ps_conv (ps_if ht h1 h2) fun D σ H q => by
    obtain ⟨os, j, ρ, F, E, pf, p, ra, rb, vs, R, A, q⟩ := q
    unfold bIf at q
    refine ⟨ρ, F, E, _, A.M, ?_⟩
    cases e1 : t ρ with
    | exc _ _ => rw [e1] at q; exact q.elim
    | bad => rw [e1] at q; exact q.elim
    | ok k ρ1 =>
      rw [e1] at q
      intro k' F1 H1 E1 S1 f1 k1 M1 d1 r1
      cases r1
      have A1 := A.move (M1.less fun x z => .inl z) f1 k1 rfl rfl rfl
      cases k with
      | true => rw [if_pos rfl]; exact ⟨os, j, ρ1, F1, E1, pf, p, ra, rb, vs, R, A1, GotS.up q f1⟩
      | false => rw [if_neg Bool.false_ne_true]; exact ⟨os, j, ρ1, F1, E1, pf, p, ra, rb, vs, R, A1, GotS.up q f1⟩
theorem b_back (hab : a ≠ b) : PBsM X c W f a b [] (bBack f a b) := pss_conv pss_nil fun D σ H q => by
  obtain ⟨os, j, ρ, F, E, pf, p, ra, rb, vs, R, A, q⟩ := q
  unfold bBack at q
  split at q
  · rename_i xs ea
    split at q
    · rename_i ys eb
      obtain ⟨E2, Z, M2, r, dz⟩ := A.pair (S := Em) hab A.M.em (fun _ _ z => z) rfl (olOf_ok ea) (olOf_ok eb)
      have rs := A.out F H (.ref p) (.ot [.ol xs, .ol ys]) Z (Same.refl F) (fun _ _ => rfl) r fun x z1 z2 => dz x (.inl (.inr z2)) z1
      rw [A.setj] at rs
      have M3 : MI X.K c _ σ F H E2 (fun x => Em x ∨ (x = pf ∨ (Z x ∨ R x))) := M2.less fun x z => by
        rcases z with z | z | z | z
        · exact z.elim
        · exact .inl (.inl (.inl z))
        · exact .inr z
        · exact .inl (.inl (.inr z))
      have M4 := M3.back (o := .ol (os.set j (.ot [.ol xs, .ol ys]))) (v := .ref pf) (i := f) (fun _ z _ => z) (.ol A.hf (.inl rfl) rs (fun x z => .inr z) fun z => by
        rcases z with z | z
        · exact dz pf (.inl (.inl rfl)) z
        · exact A.n2 z) A.sf
      exact q σ F H _ (Same.refl F) M4
    · exact q.elim
  · exact q.elim
theorem b_end {n : MS} (h : PBM X c W f a b st m) (h2 : PSsM X c W rest n) : PBsM X c W f a b (st :: rest) (bEnd m n) := pss_conv (pss_cons h h2) fun D σ H q => by
  obtain ⟨os, j, ρ, F, E, pf, p, ra, rb, vs, R, A, q⟩ := q
  unfold bEnd at q
  refine ⟨os, j, ρ, F, E, pf, p, ra, rb, vs, R, A, ?_⟩
  cases e : m os j ρ with
  | nx ρ1 => rw [e] at q; exact fun σ F H E f M => ⟨ρ1, F, E, M, GotS.up q f⟩
  | rt o ρ1 => rw [e] at q; exact q
  | bk ρ1 => rw [e] at q; exact q
  | ct ρ1 => rw [e] at q; exact q
  | exc cl ρ1 => rw [e] at q; exact q
  | bad => rw [e] at q; exact q
theorem b_put {m : ME} (ho : PE X eo (tVar f)) (hi : PE X ei (tVar i)) (he : PM X c W e m) (has : ∀ v, assign (.Subscript eo ei p2) X.env v = (do
      let ov ← holding [v] (eval eo X.env)
      let iv ← holding [v, ov] (eval ei X.env)
      standAt p2
      holding [v, ov, iv] (setItem ov iv v)
      release [v, ov, iv] []) := by intro _; rfl) (hs : swapsWithSole [.Subscript eo ei p2] e pos.line X.env = pure false := by rfl) (hw : swappedStores [.Subscript eo ei p2] e X.env = pure none := by rfl)
    (h1 : (assignEach [.Subscript eo ei p2] X.env).map (·.2) = [assign (.Subscript eo ei p2) X.env] := by rfl) : PBM X c W f a b (.Assign [.Subscript eo ei p2] e pos) (bPut f i m) :=
  ps_conv (ps_asg he (pg_sub ho hi set_list has) hs hw h1) fun D σ H q => by
    obtain ⟨os, j, ρ, F, E, pf, p, ra, rb, vs, R, A, q⟩ := q
    unfold bPut at q
    refine ⟨ρ, F, E, _, A.M, ?_⟩
    cases e1 : m ρ with
    | exc _ _ => rw [e1] at q; exact q.elim
    | bad => rw [e1] at q; exact q.elim
    | ok o ρ1 =>
      rw [e1] at q
      intro x F1 H1 E1 S1 f1 k1 M1 d1 r1
      simp only at q
      split at q
      · rename_i k ek
        split at q
        · rename_i ej
          obtain ⟨vi, Si, hvi, ri, _⟩ := M1.env.get ek
          have hx := intE_ok ri rfl
          subst hx
          have hf1 : H1 pf = some (.lst vs) := by rw [k1 pf (.inl (.inl rfl))]; exact A.hf
          refine ⟨.ref pf, A.sf, .int k, hvi, pf, vs, k, j, rfl, rfl, hf1, by rw [A.ln]; exact ej, ?_⟩
          have nS : ¬ S1 pf := fun z => d1 pf (.inl (.inl rfl)) z
          have up : ∀ {B : Addr → Prop}, ¬ B pf → ∀ y, B y → (upd H1 pf (.lst (vs.set j x))) y = H1 y := fun nB y z => upd_ne fun w => nB (w ▸ z)
          have rs := A.out F1 (upd H1 pf (.lst (vs.set j x))) x o S1 f1 (fun y z => (up A.n2 y z).trans (k1 y (.inr z))) (r1.frame (Same.refl F1) (up nS)) fun y z1 z2 => d1 y (.inr z2) z1
          have M2 := MI.write (ob := .lst (vs.set j x)) (T := fun y => S1 y) (S := fun y => y = pf ∨ R y) (M1.less fun y z => by
            rcases z with z | z | z
            · exact .inr z
            · exact .inl (.inl (.inl z))
            · exact .inl (.inr z)) (fun y z1 z2 => by
            rcases z2 with z2 | z2
            · exact d1 y (.inl (.inl z2)) z1
            · exact d1 y (.inr z2) z1) (.inl rfl)
          have M3 : MI X.K c ρ1 σ F1 (upd H1 pf (.lst (vs.set j x))) E1 (fun y => Em y ∨ (y = pf ∨ (S1 y ∨ R y))) := M2.less fun y z => by
            rcases z with z | z | z | z
            · exact z.elim
            · exact .inr (.inl z)
            · exact .inl z
            · exact .inr (.inr z)
          have M4 := M3.back (o := .ol (os.set j o)) (v := .ref pf) (i := f) (fun _ z _ => z) (.ol upd_same (.inl rfl) rs (fun y z => .inr z) fun z => by
            rcases z with z | z
            · exact nS z
            · exact A.n2 z) A.sf
          exact q σ F1 _ _ f1 M4
        · exact q.elim
      · exact q.elim
theorem b_app {m : ME} (hab : a ≠ b) (ho : PE X e1 (tVar f)) (he : PM X c W e2 m)
    (hbase : attributeBase e1 "append" X.env (eval e1 X.env) = eval e1 X.env := by rfl)
    (hfew : ((backTo pos (starEach [e2] X.env)).all (fun x => !x.1) && (backToKw pos (keywordEach [] X.env)).all (fun x => x.1.isSome)
      && decide (([e2] : List Expr).length + ([] : List Keyword).length + (if ([] : List Keyword).isEmpty then 0 else 1) < 30)) = true := by rfl)
    (hline : (apos.endLine == pos.line) = true := by rfl) (hs : starEach [e2] X.env = (false, eval e2 X.env) :: starEach [] X.env := by rfl) (hplain : (backTo pos (starEach [] X.env)).any (·.1) = false := by rfl)
    (hsw : swapsWith (.Call (.Attribute e1 "append" apos) [e2] [] pos) none p2.line X.env = pure false := by rfl) :
    PBM X c W f a b (.Expr (.Call (.Attribute e1 "append" apos) [e2] [] pos) p2) (bApp f a b m) :=
  ps_conv (ps_expr (pe_bm PySem.F.plainAttrs_list PySem.F.slot_list_append PySem.F.type_list_append mt_append ho (pa_cons he pa_nil hs) hbase hfew hline hs hplain) hsw) fun D σ H q => by
    obtain ⟨os, j, ρ, F, E, pf, p, ra, rb, vs, R, A, q⟩ := q
    unfold bApp at q
    refine ⟨.ref pf, A.sf, .inl ⟨rfl, vs, .inl (.inl A.hf)⟩, ρ, F, E, _, A.M, ?_⟩
    cases e1 : m ρ with
    | exc _ _ => rw [e1] at q; exact q.elim
    | bad => rw [e1] at q; exact q.elim
    | ok o ρ1 =>
      rw [e1] at q
      intro x F1 H1 E1 S1 f1 k1 M1 d1 r1
      simp only at q
      split at q
      · rename_i xs ea
        split at q
        · rename_i ys eb
          split at q
          · rename_i hz
            have hf1 : H1 pf = some (.lst vs) := by rw [k1 pf (.inl (.inl rfl))]; exact A.hf
            refine ⟨pf, vs, x, rfl, rfl, hf1, by rw [A.ln, line_eq]; exact hz, ?_⟩
            have nS : ¬ S1 pf := fun z => d1 pf (.inl (.inl rfl)) z
            obtain ⟨E2, Z, M2, r, dz⟩ := A.pair (S := S1) hab M1 (fun y z1 z2 => d1 y z1 z2) (k1 p (.inl (.inr rfl))) (olOf_ok ea) (olOf_ok eb)
            have up : ∀ {B : Addr → Prop}, ¬ B pf → ∀ y, B y → (upd H1 pf (.lst (vs ++ [x]))) y = H1 y := fun nB y z => upd_ne fun w => nB (w ▸ z)
            have nZ : ¬ Z pf := fun z => dz pf (.inl (.inl rfl)) z
            have rs := A.out F1 (upd H1 pf (.lst (vs ++ [x]))) (.ref p) (.ot [.ol xs, .ol ys]) Z f1 (fun y z => (up A.n2 y z).trans (k1 y (.inr z))) (r.frame (Same.refl F1) (up nZ)) fun y z1 z2 => dz y (.inl (.inr z2)) z1
            rw [A.setj] at rs
            have rs2 := rs.snoc (r1.frame (Same.refl F1) (up nS)) fun y z1 z2 => by
              rcases z1 with z1 | z1
              · exact dz y (.inr z2) z1
              · exact d1 y (.inr z1) z2
            have M3 := MI.write (ob := .lst (vs ++ [x])) (T := fun y => S1 y ∨ Z y) (S := fun y => y = pf ∨ R y) (M2.less fun y z => by
              rcases z with (z | z) | z | z
              · exact .inl (.inr z)
              · exact .inr z
              · exact .inl (.inl (.inl z))
              · exact .inl (.inl (.inr z))) (fun y z1 z2 => by
              rcases z1 with z1 | z1
              · rcases z2 with z2 | z2
                · exact d1 y (.inl (.inl z2)) z1
                · exact d1 y (.inr z2) z1
              · exact dz y (.inl z2) z1) (.inl rfl)
            have M4 : MI X.K c _ σ F1 (upd H1 pf (.lst (vs ++ [x]))) E2 (fun y => Em y ∨ (y = pf ∨ ((Z y ∨ R y) ∨ S1 y))) := M3.less fun y z => by
              rcases z with z | z | (z | z) | z
              · exact z.elim
              · exact .inr (.inl z)
              · exact .inl (.inr z)
              · exact .inr (.inr z)
              · exact .inl (.inl z)
            have M5 := M4.back (o := .ol (os.set j (.ot [.ol xs, .ol ys]) ++ [o])) (v := .ref pf) (i := f) (fun _ z _ => z) (.ol upd_same (.inl rfl) rs2 (fun y z => .inr z) fun z => by
              rcases z with (z | z) | z
              · exact nZ z
              · exact A.n2 z
              · exact nS z) A.sf
            exact q σ F1 _ _ f1 M5
          · exact q.elim
        · exact q.elim
      · exact q.elim
theorem s_open {es : List Expr} {k : Nat} {p3 : Pos} (hg : PG X (.Tuple es k p3) (gUnp X.K [a, b])) (he : PE X e (tOp (rIx X.K) (tVar f) (tVar i))) (h2 : PBsM X c W f a b rest n) (hfa : f ≠ a) (hfb : f ≠ b) (hab : a ≠ b) (hpa : c.pin a = none) (hpb : c.pin b = none)
    (hs : swapsWithSole [.Tuple es k p3] e pos.line X.env = pure false := by rfl) (hw : swappedStores [.Tuple es k p3] e X.env = pure none := by rfl)
    (h1 : (assignEach [.Tuple es k p3] X.env).map (·.2) = [assign (.Tuple es k p3) X.env] := by rfl) : PSsM X c W (.Assign [.Tuple es k p3] e pos :: rest) (sOpen f i a b n) :=
  pss_conv (pss_cons (ps_asg he hg hs hw h1) h2) fun D σ H q => by
    obtain ⟨ρ, F, E, M, q⟩ := q
    unfold sOpen at q
    split at q
    · rename_i hl
      split at q
      · rename_i os ef
        split at q
        · rename_i ki ei
          split at q
          · rename_i j ej
            split at q
            · rename_i xs ys eo
              obtain ⟨vi, Si, hvi, ri, _⟩ := M.env.get ei
              have hx := intE_ok ri rfl
              subst hx
              obtain ⟨vf, Sf, E1, hvf, rf, M1, dj1⟩ := M.take ef
              cases rf with
              | @ol pf vs _ _ B hf hSf rs s1 n1 =>
                obtain ⟨w, Sk, R, a1, a2, a3, a4, a5, a6⟩ := rs.out2 eo
                cases a2 with
                | @ot p ws _ _ B2 hp hSk rs2 s2 n2 =>
                  cases rs2 with
                  | @cons w1 _ _ _ _ A1 A2 r1 rs3 t1 t2 dd =>
                    cases rs3 with
                    | @cons w2 _ _ _ _ A3 A4 r2 rs4 t3 t4 dd2 =>
                      cases rs4
                      have r1' := r1
                      have r2' := r2
                      cases r1 with
                      | @ol ra v1s _ _ C1 hra hSa rsa sa na =>
                        cases r2 with
                        | @ol rb v2s _ _ C2 hrb hSb rsb sb nb =>
                          have hσl : σ.length = ρ.length := M.env.len
                          have npf : ∀ y, Sk y → y ≠ pf := fun y z w => by subst w; exact n1 (a3 _ z)
                          refine ⟨.ref pf, hvf, .int ki, hvi, .inl ⟨pf, vs, ki, .ref p, rfl, rfl, .inl (.inl hf), ixN_at ej rs.len a1, ?_⟩⟩
                          refine .inl ⟨p, [.ref ra, .ref rb], rfl, .inl (.inl hp), rfl, ?_⟩
                          refine ⟨_, _, rfl, _, _, rfl, rfl, ?_⟩
                          have M2 : MI X.K c (ρ.set f none) σ F H E1 (fun y => (((y = pf ∨ y = p) ∨ R y) ∨ A3 y) ∨ A1 y) := M1.less fun y z => by
                            rcases z with (((z | z) | z) | z) | z
                            · subst z; exact .inr hSf
                            · subst z; exact .inr (s1 _ (a3 _ hSk))
                            · exact .inr (s1 y (a4 y z))
                            · exact .inr (s1 y (a3 y (s2 y (t2 y (t3 y z)))))
                            · exact .inr (s1 y (a3 y (s2 y (t1 y z))))
                          have M3 := M2.store (i := a) (fun y z1 z2 => by
                            rcases z1 with ((z1 | z1) | z1) | z1
                            · exact npf y (s2 y (t1 y z2)) z1
                            · subst z1; exact n2 (t1 y z2)
                            · exact a5 y (s2 y (t1 y z2)) z1
                            · exact dd y z2 (t3 y z1)) r1' hpa
                          have M4 := M3.store (i := b) (fun y z1 z2 => by
                            rcases z1 with (z1 | z1) | z1
                            · exact npf y (s2 y (t2 y (t3 y z2))) z1
                            · subst z1; exact n2 (t2 y (t3 y z2))
                            · exact a5 y (s2 y (t2 y (t3 y z2))) z1) r2' hpb
                          refine ⟨os, j, _, F, _, pf, p, ra, rb, vs, R, ⟨M4, ?_, ?_, ?_, hf, hp, a1, rs.len, fun w => npf p hSk w.symm, fun z => n1 (a4 _ z), fun z => a5 p hSk z, a6⟩, GotS.up q (Same.refl F)⟩
                          · rw [List.getElem?_set_ne (Ne.symm hfb), List.getElem?_set_ne (Ne.symm hfa)]; exact hvf
                          · rw [List.getElem?_set_ne (Ne.symm hab), List.getElem?_set_self (by rw [hσl]; exact hl.1)]
                          · rw [List.getElem?_set_self (by rw [List.length_set, hσl]; exact hl.2)]
            · exact q.elim
          · exact q.elim
        · exact q.elim
      · exact q.elim
    · exact q.elim
end
def rngS : List Int → Option (List U)
  | [i, j, d] => if d ≠ 0 ∧ d.natAbs < 1073741824 ∧ Builtin.Range.small i j d = true ∧ 0 ≤ Builtin.Range.rangeSize i j d then some (rngC i d (Builtin.Range.rangeSize i j d).toNat) else none
  | _ => none
def srcS (as : List Ag) : Ev → R (List U) := fun ρ => match evAs as ρ with
  | .ok ds ρ1 => match osAt ρ1 ds with
    | some os => match intsO os with
      | some is => match rngS is with
        | some us => .ok us ρ1
        | none => .bad
      | none => .bad
    | none => .bad
  | .exc cl r => .exc cl r
  | .bad => .bad
section
variable {K : PySem.W.Frag} {c : Cc} {g : Str → Option Value} {W : WX} {ρ ρ' : Ev} {σ σ' : St} {F F' H H' : Hp} {E E' T T' S S1 S2 : Addr → Prop} {v : V} {o : O} {u : U} {us : List U}
theorem rngS_ok {is : List Int} (e4 : rngS is = some us) : RngR K c F is us := by
  unfold rngS at e4
  split at e4
  · split at e4
    · rename_i hn
      cases e4
      exact .r3 (n := (Builtin.Range.rangeSize _ _ _).toNat) ⟨hn.1, hn.2.1, hn.2.2.1, by have := hn.2.2.2; omega⟩ iok_rngC
    · cases e4
  · cases e4
theorem conv_rngS {as : List Ag} (σ : St) (H : Hp) (P : It → Hp → Prop) (h : tI K c g W (srcS as) σ H P) : tMA K c g W as σ H fun vs H1 => ∃ is us F1, vs = is.map V.int ∧ is.length = as.length ∧ RngR K c F1 is us ∧ ∀ J, Iok K c F1 J us → P J H1 := by
  obtain ⟨ρ, F, E, T, M, h⟩ := h
  unfold srcS at h
  refine ⟨ρ, F, E, T, M, ?_⟩
  cases e1 : evAs as ρ with
  | exc cl ρ1 => rw [e1] at h; exact h
  | bad => rw [e1] at h; exact h
  | ok ds ρ1 =>
    rw [e1] at h
    simp only at h
    intro vs F1 H1 E1 S1 f1 k1 M1 d1 r1
    cases e2 : osAt ρ1 ds with
    | none => rw [e2] at h; exact h.elim
    | some os =>
      rw [e2] at h
      simp only at h
      cases e3 : intsO os with
      | none => rw [e3] at h; exact h.elim
      | some is =>
        rw [e3] at h
        simp only at h
        cases e4 : rngS is with
        | none => rw [e4] at h; exact h.elim
        | some us =>
          rw [e4] at h
          have hv := intsO_ok (osAt_ok M1 r1 (fun a x => .inr x) e2) e3
          refine ⟨is, us, F1, hv, ?_, rngS_ok e4, fun J I => h J F1 H1 E1 f1 k1 (M1.less fun a x => .inl x) I⟩
          have l1 := r1.len
          rw [hv, List.length_map] at l1
          rw [l1, evAs_len e1]
end
section
variable {X : Cx} {c : Cc} {W : WX} {tg e1 e2 e3 : Expr} {a b d : Ag} {p pos : Pos}
theorem i_r3S (hg : Gl X "range") (hm : X.mg "range" = none) (ha : PAM X c W [e1, e2, e3] [a, b, d]) (hs : starEach [e1, e2, e3] X.env = (false, eval e1 X.env) :: starEach [e2, e3] X.env := by rfl) (hpl : (backTo pos (starEach [e2, e3] X.env)).any (·.1) = false := by rfl) : PIM X c W tg (.Call (.Name "range" p) [e1, e2, e3] [] pos) (srcS [a, b, d]) :=
  pi_conv (pi_range3 (ta := tMA X.K c X.mg W [a, b, d]) hg hm ha hs hpl) fun σ H P q => tma_mono (conv_rngS σ H P q) fun vs H1 ⟨is, us, F1, hv, hl, r, k⟩ => by
    cases r with
    | r1 _ _ _ => cases hl
    | r2 _ _ => cases hl
    | r3 h1 I => exact ⟨_, _, _, _, hv, h1, k _ I⟩
end
end MM
namespace K76
open PySem PySem.Spec L2 MM
def top (i : Nat) : Stmt := PySem.Challenge.pw_floorcurves_k76_spoilt_papers.main.body.getD i (.Pass ⟨0, 0, 0, 0⟩)
structure Fx (K : PySem.W.Frag) (mg : Str → Option Value) : Prop where
  z_abs : mg "abs" = none
  z_all : mg "all" = none
  z_bool : mg "bool" = none
  z_enumerate : mg "enumerate" = none
  z_int : mg "int" = none
  z_isinstance : mg "isinstance" = none
  z_len : mg "len" = none
  z_list : mg "list" = none
  z_min : mg "min" = none
  z_range : mg "range" = none
  z_sorted : mg "sorted" = none
  z_sum : mg "sum" = none
  z_tuple : mg "tuple" = none
  s_is_whole : Sta K mg "is_whole" ["thing"] (top 5)
  s_asked_degree : Sta K mg "asked_degree" ["d", "most"] (top 6)
  s_asked_crossings : Sta K mg "asked_crossings" ["k", "most"] (top 7)
  s_asked_wide : Sta K mg "asked_wide" ["d", "k"] (top 8)
  s_ends_at : Sta K mg "ends_at" ["d", "drawing"] (top 10)
  s_sound : Sta K mg "sound" ["d", "drawing"] (top 11)
  s_lifts_from : Sta K mg "lifts_from" ["floor", "d", "room"] (top 12)
  s_weighing : Sta K mg "weighing" ["lifts"] (top 13)
  s_rows_from : Sta K mg "rows_from" ["floor", "d", "room"] (top 14)
  s_all_sound : Sta K mg "all_sound" ["d"] (top 15)
  s_drawings : Sta K mg "drawings" ["d", "k"] (top 16)
  s_worth : Sta K mg "worth" ["drawing"] (top 17)
  s_asked_sound : Sta K mg "asked_sound" ["d", "drawing"] (top 19)
  s_marks_between : Sta K mg "marks_between" ["d", "drawing"] (top 20)
  s_without_one : Sta K mg "without_one" ["marks", "mark"] (top 21)
  s_next_marks : Sta K mg "next_marks" ["d", "floor", "left"] (top 22)
  s_markings : Sta K mg "markings" ["d", "drawing"] (top 23)
  s_paper : Sta K mg "paper" ["d", "k"] (top 25)
  s_is_drawing : Sta K mg "is_drawing" ["d", "k", "drawing"] (top 26)
  s_is_marking : Sta K mg "is_marking" ["d", "drawing", "marking"] (top 27)
  s_weighed : Sta K mg "weighed" ["d", "k", "some"] (top 28)
  s__law_cell_at : Sta K mg "_law_cell_at" ["_law_script", "_law_k"] (top 30)
  s__law_bag : Sta K mg "_law_bag" ["_law_cell", "_law_place"] (top 31)
  s__law_mixed : Sta K mg "_law_mixed" ["_law_bag_here"] (top 32)
  s__law_digit : Sta K mg "_law_digit" ["_law_bag_here", "_law_many"] (top 33)
  s__law_marks : Sta K mg "_law_marks" ["_law_d", "_law_drawing"] (top 34)
  s__law_is_right : Sta K mg "_law_is_right" ["_law_one", "_law_d", "_law_k"] (top 35)
  s__law_due : Sta K mg "_law_due" ["_law_some", "_law_d", "_law_k"] (top 36)
  s__law_left : Sta K mg "_law_left" ["_law_bag_here", "_law_some"] (top 37)
  s__law_odd_row : Sta K mg "_law_odd_row" ["_law_bag_here", "_law_row", "_law_d"] (top 38)
  s__law_spoilt : Sta K mg "_law_spoilt" ["_law_bag_here", "_law_some", "_law_d"] (top 39)
  s__law_asked : Sta K mg "_law_asked" ["_law_d", "_law_k", "_law_some"] (top 40)
  s_law : Sta K mg "law" ["_law_script"] (top 41)
  x_NoBound : ExF K mg "NoBound"
  x_NoDrawing : ExF K mg "NoDrawing"
section
variable {P : Program} {w : World} {K : PySem.W.Frag} {mg : Str → Option Value} {base : Heap}
theorem sc_is_whole : FnScope ["thing"] ["thing"] (defScope (top 5)) := ⟨rfl, rfl, rfl, by decide +kernel, rfl, by decide +kernel, by decide +kernel⟩
def b_is_whole : MS :=
  (sRet (vAnd (mUn (fIsi .int) (.var 0)) (vNot (mUn (fIsi .bl) (.var 0)))))
def m_is_whole : List O → R O := runF 0 [true] b_is_whole
theorem ok_is_whole (T : Fx K mg) : Cal P w K mg base "is_whole" ["thing"] 1 m_is_whole :=
  cal_of (k := 0) T.s_is_whole sc_is_whole rfl (by decide) fun X c W cdv A outer s H E f hX hW hr tk po hp hp2 => by
  subst hX; subst hW
  exact (s_one (s_ret (x_and (x_isi .int nofun (pv 0) rfl T.z_isinstance rfl T.z_int bt_int) (x_one (x_not (x_isi .bl nofun (pv 0) rfl T.z_isinstance rfl T.z_bool bt_bool))))))
theorem sc_asked_degree : FnScope ["d", "most"] ["d", "most"] (defScope (top 6)) := ⟨rfl, rfl, rfl, by decide +kernel, rfl, by decide +kernel, by decide +kernel⟩
def b_asked_degree : MS :=
  (sIf (bOr (bNot (mTru (.ex (mCall m_is_whole [(.var 0)])))) (bNot (asB (mChain (fI iLe) (fI iLe) (.ex (mC (.int 1))) (.var 0) (.var 1)))))
  (sRaise "NoBound")
  sNil)
def m_asked_degree : List O → R O := runF 0 [true, true] b_asked_degree
theorem ok_asked_degree (T : Fx K mg) : Cal P w K mg base "asked_degree" ["d", "most"] 2 m_asked_degree :=
  cal_of (k := 1) T.s_asked_degree sc_asked_degree rfl (by decide) fun X c W cdv A outer s H E f hX hW hr tk po hp hp2 => by
  subst hX; subst hW
  exact (s_one (s_if (t_w (w_or (t_not (t_tru (x_call (ok_is_whole T) tk (hr.mono (by decide)) rfl rfl (xa_cons (pv 0) xa_nil)))) (w_or1 (t_not (t_chain sv_le sv_le op_le op_le x_int (pv 0) (pv 1))))))
    (s_one (s_raiseX rfl tk T.x_NoBound rfl))
    s_nil))
theorem sc_asked_crossings : FnScope ["k", "most"] ["k", "most"] (defScope (top 7)) := ⟨rfl, rfl, rfl, by decide +kernel, rfl, by decide +kernel, by decide +kernel⟩
def b_asked_crossings : MS :=
  (sIf (bOr (bNot (mTru (.ex (mCall m_is_whole [(.var 0)])))) (bNot (asB (mChain (fI iLe) (fI iLe) (.ex (mC (.int 0))) (.var 0) (.var 1)))))
  (sRaise "NoBound")
  sNil)
def m_asked_crossings : List O → R O := runF 0 [true, true] b_asked_crossings
theorem ok_asked_crossings (T : Fx K mg) : Cal P w K mg base "asked_crossings" ["k", "most"] 2 m_asked_crossings :=
  cal_of (k := 1) T.s_asked_crossings sc_asked_crossings rfl (by decide) fun X c W cdv A outer s H E f hX hW hr tk po hp hp2 => by
  subst hX; subst hW
  exact (s_one (s_if (t_w (w_or (t_not (t_tru (x_call (ok_is_whole T) tk (hr.mono (by decide)) rfl rfl (xa_cons (pv 0) xa_nil)))) (w_or1 (t_not (t_chain sv_le sv_le op_le op_le x_int (pv 0) (pv 1))))))
    (s_one (s_raiseX rfl tk T.x_NoBound rfl))
    s_nil))
theorem sc_asked_wide : FnScope ["d", "k"] ["d", "k"] (defScope (top 8)) := ⟨rfl, rfl, rfl, by decide +kernel, rfl, by decide +kernel, by decide +kernel⟩
def b_asked_wide : MS :=
  (sSeq (sDrop (mCall m_asked_degree [(.var 0), (.ex (mC (.int 5)))]))
  (sSeq (sDrop (mCall m_asked_crossings [(.var 1), (.ex (mC (.int 6)))]))
  (sIf (bAnd (asB (mBin fEq (.var 0) (.ex (mC (.int 5))))) (asB (mBin (fI iGt) (.var 1) (.ex (mC (.int 3))))))
  (sRaise "NoBound")
  sNil)))
def m_asked_wide : List O → R O := runF 0 [true, true] b_asked_wide
theorem ok_asked_wide (T : Fx K mg) : Cal P w K mg base "asked_wide" ["d", "k"] 3 m_asked_wide :=
  cal_of (k := 2) T.s_asked_wide sc_asked_wide rfl (by decide) fun X c W cdv A outer s H E f hX hW hr tk po hp hp2 => by
  subst hX; subst hW
  exact (s_seq (s_drop (x_call (ok_asked_degree T) tk (hr.mono (by decide)) rfl rfl (xa_cons (pv 0) (xa_cons x_int xa_nil))))
    (s_seq (s_drop (x_call (ok_asked_crossings T) tk (hr.mono (by decide)) rfl rfl (xa_cons (pv 1) (xa_cons x_int xa_nil))))
    (s_one (s_if (t_w (w_and (t_cmp sv_eq (op_eqP hr.units) (pv 0) x_int (nomark _)) (w_and1 (t_cmp sv_gt op_gt (pv 1) x_int (nomark _)))))
    (s_one (s_raiseX rfl tk T.x_NoBound rfl))
    s_nil))))
theorem sc_ends_at : FnScope ["d", "drawing", "found", "low", "high", "weight"] ["d", "drawing"] (defScope (top 10)) := ⟨rfl, rfl, rfl, by decide +kernel, rfl, by decide +kernel, by decide +kernel⟩
def b_ends_at_1 : MS :=
  (sSeq (sAugIx (fI iSub) 2 (.ex (mBin (fI iSub) (.var 3) (.ex (mC (.int 1))))) (.var 5))
  (sAugIx fAddI 2 (.ex (mBin (fI iSub) (.var 4) (.ex (mC (.int 1))))) (.var 5)))
def b_ends_at : MS :=
  (sSeq (sDrop (mCall m_asked_degree [(.var 0), (.ex (mC (.int 5)))]))
  (sSeq (sSet 2 (mBin fMul (.ex (mLst [(.ex (mC (.int 1)))])) (.var 0)))
  (sSeq (sForV (.tp [3, 4, 5]) 1
  b_ends_at_1)
  (sRet (mTake 2)))))
def m_ends_at : List O → R O := runF 4 [true, true] b_ends_at
theorem ok_ends_at (T : Fx K mg) : Cal P w K mg base "ends_at" ["d", "drawing"] 3 m_ends_at :=
  cal_of (k := 2) T.s_ends_at sc_ends_at rfl (by decide) fun X c W cdv A outer s H E f hX hW hr tk po hp hp2 => by
  subst hX; subst hW
  exact (s_seq (s_drop (x_call (ok_asked_degree T) tk (hr.mono (by decide)) rfl rfl (xa_cons (pv 0) (xa_cons x_int xa_nil))))
    (s_seq (s_set 2 sc_ends_at.nd rfl (by first | exact .inl rfl | exact .inr rfl) (hp 2 rfl) (x_bin sv_mul op_mulA (x_lst (xa_cons x_int xa_nil)) (pv 0)))
    (s_seq (s_forV 1 po rfl (pv 1) (g_tp rfl (pgs_all_cons (i := 3) sc_ends_at.nd rfl (by first | exact .inl rfl | exact .inr rfl) (pgs_all_cons (i := 4) sc_ends_at.nd rfl (by first | exact .inl rfl | exact .inr rfl) (pgs_all_cons (i := 5) sc_ends_at.nd rfl (by first | exact .inl rfl | exact .inr rfl) pgs_all_nil)))) (by intro i hi; simp only [List.mem_cons, List.not_mem_nil, or_false] at hi; rcases hi with rfl | rfl | rfl <;> exact hp _ rfl) (by decide) (hp2 1 rfl)
    (s_seq (s_augIx sv_sub iop_sub 2 (pv 2) (x_bin sv_sub op_sub (pv 3) x_int) (pv 5))
    (s_one (s_augIx sv_addI iop_addI 2 (pv 2) (x_bin sv_sub op_sub (pv 4) x_int) (pv 5)))))
    (s_one (s_ret (x_take 2 (pv 2)))))))
theorem sc_sound : FnScope ["d", "drawing"] ["d", "drawing"] (defScope (top 11)) := ⟨rfl, rfl, rfl, by decide +kernel, rfl, by decide +kernel, by decide +kernel⟩
def b_sound : MS :=
  (sRet (mBin (fI iGe) (.ex (mCB (f1 minO) [(.ex (mCall m_ends_at [(.var 0), (.var 1)]))])) (.ex (mC (.int 0)))))
def m_sound : List O → R O := runF 0 [true, true] b_sound
theorem ok_sound (T : Fx K mg) : Cal P w K mg base "sound" ["d", "drawing"] 4 m_sound :=
  cal_of (k := 3) T.s_sound sc_sound rfl (by decide) fun X c W cdv A outer s H E f hX hW hr tk po hp hp2 => by
  subst hX; subst hW
  exact (s_one (s_ret (x_cmp sv_ge op_ge (x_cb sv_minL (cr_min rfl) rfl T.z_min bt_min (xa_cons (x_call (ok_ends_at T) tk (hr.mono (by decide)) rfl rfl (xa_cons (pv 0) (xa_cons (pv 1) xa_nil))) xa_nil)) x_int (nomark _))))
theorem sc_lifts_from : FnScope ["floor", "d", "room", "found", "high", "weight"] ["floor", "d", "room"] (defScope (top 12)) := ⟨rfl, rfl, rfl, by decide +kernel, rfl, by decide +kernel, by decide +kernel⟩
def b_lifts_from_1 : MS :=
  (sDrop (mMth 3 fApp [(.ex (mTup [(.ex (mVar 0)), (.ex (mVar 4)), (.ex (mVar 5))]))]))
def b_lifts_from_2 : MS :=
  (sFor (.nm 5) (srcR [(.ex (mC (.int 1))), (.ex (mBin fAdd (.var 2) (.ex (mC (.int 1)))))])
  b_lifts_from_1)
def b_lifts_from : MS :=
  (sSeq (sSet 3 (mLst []))
  (sSeq (sFor (.nm 4) (srcR [(.ex (mBin fAdd (.var 0) (.ex (mC (.int 1))))), (.ex (mBin fAdd (.var 1) (.ex (mC (.int 1)))))])
  b_lifts_from_2)
  (sRet (mTake 3))))
def m_lifts_from : List O → R O := runF 3 [true, true, true] b_lifts_from
theorem ok_lifts_from (T : Fx K mg) : Cal P w K mg base "lifts_from" ["floor", "d", "room"] 1 m_lifts_from :=
  cal_of (k := 0) T.s_lifts_from sc_lifts_from rfl (by decide) fun X c W cdv A outer s H E f hX hW hr tk po hp hp2 => by
  subst hX; subst hW
  exact (s_seq (s_set 3 sc_lifts_from.nd rfl (by first | exact .inl rfl | exact .inr rfl) (hp 3 rfl) (x_lst xa_nil))
    (s_seq (s_for po rfl (i_r2 rfl T.z_range (xa_cons (x_bin sv_add op_addQ (pv 0) x_int) (xa_cons (x_bin sv_add op_addQ (pv 1) x_int) xa_nil))) (g_nm 4 sc_lifts_from.nd rfl (by first | exact .inl rfl | exact .inr rfl)) (hp 4 rfl)
    (s_one (s_for po rfl (i_r2 rfl T.z_range (xa_cons x_int (xa_cons (x_bin sv_add op_addQ (pv 2) x_int) xa_nil))) (g_nm 5 sc_lifts_from.nd rfl (by first | exact .inl rfl | exact .inr rfl)) (hp 5 rfl)
    (s_one (s_drop (x_app 3 (pv 3) (xa_cons (x_tup (xa_cons (x_var 0 (pv 0)) (xa_cons (x_var 4 (pv 4)) (xa_cons (x_var 5 (pv 5)) xa_nil)))) xa_nil)))))))
    (s_one (s_ret (x_take 3 (pv 3))))))
theorem sc_weighing : FnScope ["lifts", "lift"] ["lifts"] (defScope (top 13)) := ⟨rfl, rfl, rfl, by decide +kernel, rfl, by decide +kernel, by decide +kernel⟩
def b_weighing : MS :=
  (sRet (mCB (f1 sumO) [(.ex (mLc (.nm 1) [1] (srcA (.ex (mVar 0))) bYes (mBin fIdx (.var 1) (.ex (mC (.int 2))))))]))
def m_weighing : List O → R O := runF 1 [true] b_weighing
theorem ok_weighing (T : Fx K mg) : Cal P w K mg base "weighing" ["lifts"] 1 m_weighing :=
  cal_of (k := 0) T.s_weighing sc_weighing rfl (by decide) fun X c W cdv A outer s H E f hX hW hr tk po hp hp2 => by
  subst hX; subst hW
  exact (s_one (s_ret (x_cb sv_sum (cr_sum rfl) rfl T.z_sum bt_sum (xa_cons (x_lcN (own := [("lift", 1)]) rfl rfl sc_weighing.nd (i_seq (x_var 0 (pv 0))) (blkOk_by (N := ["lifts", "lift"]) (sc := defScope (top 13)) (by decide +kernel)) (fun _ _ _ _ _ => (g_nm 1 sc_weighing.nd rfl (by first | exact .inl rfl | exact .inr rfl))) (fun _ _ _ _ _ => ts_nil) (fun _ _ _ _ _ => (x_idx (pv 1) x_int)) (by intro i hi; simp only [List.mem_cons, List.not_mem_nil, or_false] at hi; subst hi <;> exact hp _ rfl) (by decide) (hp 1 rfl)) xa_nil))))
theorem sc_rows_from : FnScope ["floor", "d", "room", "some", "rows", "at", "row", "lift"] ["floor", "d", "room"] (defScope (top 14)) := ⟨rfl, rfl, rfl, by decide +kernel, rfl, by decide +kernel, by decide +kernel⟩
def b_rows_from_1 : MS :=
  (sIf (bAnd (bOr (asB (mBin fEq (.var 6) (.ex (mLst [])))) (asB (mBin fLeD (.ex (mBin fIdx (.var 6) (.ex (mUn fNeg (.ex (mC (.int 1))))))) (.var 7)))) (asB (mBin fLeD (.ex (mBin fAdd (.ex (mCall m_weighing [(.var 6)])) (.ex (mBin fIdx (.var 7) (.ex (mC (.int 2))))))) (.var 2))))
  (sDrop (mMth 4 fApp [(.ex (mFrz (mBin fAdd (.var 6) (.ex (mLst [(.ex (mVar 7))])))))]))
  sNil)
def t_rows_from_2 : Ev → R Bool :=
  (asB (mBin fLtD (.var 5) (.ex (mCB (f1 lenO) [(.var 4)]))))
def b_rows_from_3 : MS :=
  (sSeq (sSet 6 (mBin fIdx (.var 4) (.var 5)))
  (sSeq (sFor (.nm 7) (srcA (.ex (mVar 3)))
  b_rows_from_1)
  (sAug fAddI 5 (.ex (mC (.int 1))))))
def b_rows_from : MS :=
  (sSeq (sSet 3 (mCall m_lifts_from [(.var 0), (.var 1), (.var 2)]))
  (sSeq (sSet 4 (mLst [(.ex (mFrz (mLst [])))]))
  (sSeq (sSet 5 (mC (.int 0)))
  (sSeq (sWhile 100000 t_rows_from_2
  b_rows_from_3)
  (sRet (mTake 4))))))
def m_rows_from : List O → R O := runF 5 [true, true, true] b_rows_from
theorem ok_rows_from (T : Fx K mg) : Cal P w K mg base "rows_from" ["floor", "d", "room"] 2 m_rows_from :=
  cal_of (k := 1) T.s_rows_from sc_rows_from rfl (by decide) fun X c W cdv A outer s H E f hX hW hr tk po hp hp2 => by
  subst hX; subst hW
  exact (s_seq (s_set 3 sc_rows_from.nd rfl (by first | exact .inl rfl | exact .inr rfl) (hp 3 rfl) (x_call (ok_lifts_from T) tk (hr.mono (by decide)) rfl rfl (xa_cons (pv 0) (xa_cons (pv 1) (xa_cons (pv 2) xa_nil)))))
    (s_seq (s_set 4 sc_rows_from.nd rfl (by first | exact .inl rfl | exact .inr rfl) (hp 4 rfl) (x_lst (xa_cons (x_frz (x_lst xa_nil)) xa_nil)))
    (s_seq (s_set 5 sc_rows_from.nd rfl (by first | exact .inl rfl | exact .inr rfl) (hp 5 rfl) x_int)
    (s_seq (s_while 100000 po (t_cmp sv_ltD (op_ltD hr.units) (pv 5) (x_cb sv_len call_len rfl T.z_len bt_len (xa_cons (pv 4) xa_nil)) (nomark _))
    (s_seq (s_set 6 sc_rows_from.nd rfl (by first | exact .inl rfl | exact .inr rfl) (hp 6 rfl) (x_idx (pv 4) (pv 5)))
    (s_seq (s_for po rfl (i_seq (x_var 3 (pv 3))) (g_nm 7 sc_rows_from.nd rfl (by first | exact .inl rfl | exact .inr rfl)) (hp 7 rfl)
    (s_one (s_if (t_w (w_and (t_w (w_or (t_cmp sv_eq (op_eqP hr.units) (pv 6) (x_lst xa_nil) (nomark _)) (w_or1 (t_cmp sv_leD (op_leD hr.units) (x_idx (pv 6) (x_neg x_int)) (pv 7) (nomark _))))) (w_and1 (t_cmp sv_leD (op_leD hr.units) (x_bin sv_add op_addQ (x_call (ok_weighing T) tk (hr.mono (by decide)) rfl rfl (xa_cons (pv 6) xa_nil)) (x_idx (pv 7) x_int)) (pv 2) (nomark _)))))
    (s_one (s_drop (x_app 4 (pv 4) (xa_cons (x_frz (x_bin sv_add op_addQ (pv 6) (x_lst (xa_cons (x_var 7 (pv 7)) xa_nil)))) xa_nil))))
    s_nil)))
    (s_one (s_aug sv_addI iop_addI 5 sc_rows_from.nd rfl (by first | exact .inl rfl | exact .inr rfl) (hp 5 rfl) x_int)))))
    (s_one (s_ret (x_take 4 (pv 4))))))))
theorem sc_all_sound : FnScope ["d", "rows", "floor", "more", "row", "room", "leaving"] ["d"] (defScope (top 15)) := ⟨rfl, rfl, rfl, by decide +kernel, rfl, by decide +kernel, by decide +kernel⟩
def b_all_sound_1 : MS :=
  (sDrop (mMth 3 fApp [(.ex (mBin fAdd (.var 4) (.var 6)))]))
def b_all_sound_2 : MS :=
  (sSeq (sSet 5 (mBin fIdx (.ex (mCall m_ends_at [(.var 0), (.var 4)])) (.ex (mBin (fI iSub) (.var 2) (.ex (mC (.int 1)))))))
  (sFor (.nm 6) (srcA (.ex (mCall m_rows_from [(.var 2), (.var 0), (.var 5)])))
  b_all_sound_1))
def b_all_sound_3 : MS :=
  (sSeq (sSet 3 (mLst []))
  (sSeq (sFor (.nm 4) (srcA (.ex (mVar 1)))
  b_all_sound_2)
  (sSet 1 (mVar 3))))
def b_all_sound : MS :=
  (sSeq (sSet 1 (mLst [(.ex (mFrz (mLst [])))]))
  (sSeq (sFor (.nm 2) (srcR [(.ex (mC (.int 1))), (.var 0)])
  b_all_sound_3)
  (sRet (mTake 1))))
def m_all_sound : List O → R O := runF 6 [true] b_all_sound
theorem ok_all_sound (T : Fx K mg) : Cal P w K mg base "all_sound" ["d"] 4 m_all_sound :=
  cal_of (k := 3) T.s_all_sound sc_all_sound rfl (by decide) fun X c W cdv A outer s H E f hX hW hr tk po hp hp2 => by
  subst hX; subst hW
  exact (s_seq (s_set 1 sc_all_sound.nd rfl (by first | exact .inl rfl | exact .inr rfl) (hp 1 rfl) (x_lst (xa_cons (x_frz (x_lst xa_nil)) xa_nil)))
    (s_seq (s_for po rfl (i_r2 rfl T.z_range (xa_cons x_int (xa_cons (pv 0) xa_nil))) (g_nm 2 sc_all_sound.nd rfl (by first | exact .inl rfl | exact .inr rfl)) (hp 2 rfl)
    (s_seq (s_set 3 sc_all_sound.nd rfl (by first | exact .inl rfl | exact .inr rfl) (hp 3 rfl) (x_lst xa_nil))
    (s_seq (s_for po rfl (i_seq (x_var 1 (pv 1))) (g_nm 4 sc_all_sound.nd rfl (by first | exact .inl rfl | exact .inr rfl)) (hp 4 rfl)
    (s_seq (s_set 5 sc_all_sound.nd rfl (by first | exact .inl rfl | exact .inr rfl) (hp 5 rfl) (x_idx (x_call (ok_ends_at T) tk (hr.mono (by decide)) rfl rfl (xa_cons (pv 0) (xa_cons (pv 4) xa_nil))) (x_bin sv_sub op_sub (pv 2) x_int)))
    (s_one (s_for po rfl (i_seq (x_call (ok_rows_from T) tk (hr.mono (by decide)) rfl rfl (xa_cons (pv 2) (xa_cons (pv 0) (xa_cons (pv 5) xa_nil))))) (g_nm 6 sc_all_sound.nd rfl (by first | exact .inl rfl | exact .inr rfl)) (hp 6 rfl)
    (s_one (s_drop (x_app 3 (pv 3) (xa_cons (x_bin sv_add op_addQ (pv 4) (pv 6)) xa_nil))))))))
    (s_one (s_set 1 sc_all_sound.nd rfl (by first | exact .inl rfl | exact .inr rfl) (hp 1 rfl) (x_var 3 (pv 3)))))))
    (s_one (s_ret (x_take 1 (pv 1))))))
theorem sc_drawings : FnScope ["d", "k", "wanted", "row"] ["d", "k"] (defScope (top 16)) := ⟨rfl, rfl, rfl, by decide +kernel, rfl, by decide +kernel, by decide +kernel⟩
def b_drawings : MS :=
  (sSeq (sDrop (mCall m_asked_wide [(.var 0), (.var 1)]))
  (sSeq (sSet 2 (mBin (fI iSub) (.ex (mBin (fI iDiv) (.ex (mBin fMul (.var 0) (.ex (mBin (fI iSub) (.var 0) (.ex (mC (.int 1))))))) (.ex (mC (.int 2))))) (.var 1)))
  (sRet (mCB fSort [(.ex (mLc (.nm 3) [3] (srcA (.ex (mCall m_all_sound [(.var 0)]))) (asB (mBin fEq (.ex (mCB (f1 lenO) [(.var 3)])) (.var 2))) (mVar 3)))]))))
def m_drawings : List O → R O := runF 2 [true, true] b_drawings
theorem ok_drawings (T : Fx K mg) : Cal P w K mg base "drawings" ["d", "k"] 5 m_drawings :=
  cal_of (k := 4) T.s_drawings sc_drawings rfl (by decide) fun X c W cdv A outer s H E f hX hW hr tk po hp hp2 => by
  subst hX; subst hW
  exact (s_seq (s_drop (x_call (ok_asked_wide T) tk (hr.mono (by decide)) rfl rfl (xa_cons (pv 0) (xa_cons (pv 1) xa_nil))))
    (s_seq (s_set 2 sc_drawings.nd rfl (by first | exact .inl rfl | exact .inr rfl) (hp 2 rfl) (x_bin sv_sub op_sub (x_bin sv_div op_fdivQ (x_bin sv_mul op_mulA (pv 0) (x_bin sv_sub op_sub (pv 0) x_int)) x_int) (pv 1)))
    (s_one (s_ret (x_cb sv_sort (cr_sortD hr.units) rfl T.z_sorted bt_sorted (xa_cons (x_lcN (own := [("row", 3)]) rfl rfl sc_drawings.nd (i_seq (x_call (ok_all_sound T) tk (hr.mono (by decide)) rfl rfl (xa_cons (pv 0) xa_nil))) (blkOk_by (N := ["d", "k", "wanted", "row"]) (sc := defScope (top 16)) (by decide +kernel)) (fun _ _ _ _ _ => (g_nm 3 sc_drawings.nd rfl (by first | exact .inl rfl | exact .inr rfl))) (fun _ _ _ _ _ => (ts_one (t_cmp sv_eq (op_eqP hr.units) (x_cb sv_len call_len rfl T.z_len bt_len (xa_cons (pv 3) xa_nil)) (pv 2) (nomark _)))) (fun _ _ _ _ _ => (x_var 3 (pv 3))) (by intro i hi; simp only [List.mem_cons, List.not_mem_nil, or_false] at hi; subst hi <;> exact hp _ rfl) (by decide) (hp 3 rfl)) xa_nil))))))
theorem sc_worth : FnScope ["drawing", "found", "low", "high", "weight"] ["drawing"] (defScope (top 17)) := ⟨rfl, rfl, rfl, by decide +kernel, rfl, by decide +kernel, by decide +kernel⟩
def b_worth_1 : MS :=
  (sAug (fI iMul) 1 (.ex (mBin fMul (.var 4) (.var 4))))
def b_worth : MS :=
  (sSeq (sSet 1 (mC (.int 1)))
  (sSeq (sForV (.tp [2, 3, 4]) 0
  b_worth_1)
  (sRet (mTake 1))))
def m_worth : List O → R O := runF 4 [true] b_worth
theorem ok_worth (T : Fx K mg) : Cal P w K mg base "worth" ["drawing"] 1 m_worth :=
  cal_of (k := 0) T.s_worth sc_worth rfl (by decide) fun X c W cdv A outer s H E f hX hW hr tk po hp hp2 => by
  subst hX; subst hW
  exact (s_seq (s_set 1 sc_worth.nd rfl (by first | exact .inl rfl | exact .inr rfl) (hp 1 rfl) x_int)
    (s_seq (s_forV 0 po rfl (pv 0) (g_tp rfl (pgs_all_cons (i := 2) sc_worth.nd rfl (by first | exact .inl rfl | exact .inr rfl) (pgs_all_cons (i := 3) sc_worth.nd rfl (by first | exact .inl rfl | exact .inr rfl) (pgs_all_cons (i := 4) sc_worth.nd rfl (by first | exact .inl rfl | exact .inr rfl) pgs_all_nil)))) (by intro i hi; simp only [List.mem_cons, List.not_mem_nil, or_false] at hi; rcases hi with rfl | rfl | rfl <;> exact hp _ rfl) (by decide) (hp2 0 rfl)
    (s_one (s_aug sv_mulI iop_mulQ 1 sc_worth.nd rfl (by first | exact .inl rfl | exact .inr rfl) (hp 1 rfl) (x_bin sv_mul op_mulA (pv 4) (pv 4)))))
    (s_one (s_ret (x_take 1 (pv 1))))))
theorem sc_asked_sound : FnScope ["d", "drawing"] ["d", "drawing"] (defScope (top 19)) := ⟨rfl, rfl, rfl, by decide +kernel, rfl, by decide +kernel, by decide +kernel⟩
def b_asked_sound : MS :=
  (sSeq (sDrop (mCall m_asked_degree [(.var 0), (.ex (mC (.int 5)))]))
  (sIf (bNot (mTru (.ex (mCall m_sound [(.var 0), (.var 1)]))))
  (sRaise "NoDrawing")
  sNil))
def m_asked_sound : List O → R O := runF 0 [true, true] b_asked_sound
theorem ok_asked_sound (T : Fx K mg) : Cal P w K mg base "asked_sound" ["d", "drawing"] 5 m_asked_sound :=
  cal_of (k := 4) T.s_asked_sound sc_asked_sound rfl (by decide) fun X c W cdv A outer s H E f hX hW hr tk po hp hp2 => by
  subst hX; subst hW
  exact (s_seq (s_drop (x_call (ok_asked_degree T) tk (hr.mono (by decide)) rfl rfl (xa_cons (pv 0) (xa_cons x_int xa_nil))))
    (s_one (s_if (t_not (t_tru (x_call (ok_sound T) tk (hr.mono (by decide)) rfl rfl (xa_cons (pv 0) (xa_cons (pv 1) xa_nil)))))
    (s_one (s_raiseX rfl tk T.x_NoDrawing rfl))
    s_nil)))
theorem sc_marks_between : FnScope ["d", "drawing", "found", "at", "many"] ["d", "drawing"] (defScope (top 20)) := ⟨rfl, rfl, rfl, by decide +kernel, rfl, by decide +kernel, by decide +kernel⟩
def b_marks_between_1 : MS :=
  (sDrop (mMth 2 fExt [(.ex (mBin fMul (.ex (mLst [(.ex (mTup [(.ex (mBin fAdd (.var 3) (.ex (mC (.int 1))))), (.ex (mBin fAdd (.var 0) (.ex (mC (.int 1))))), (.ex (mC (.int 1)))]))])) (.var 4)))]))
def b_marks_between : MS :=
  (sSeq (sSet 2 (mCB fList [(.var 1)]))
  (sSeq (sFor (.tp [3, 4]) (src1 (enumU 0) [(.ex (mFrz (mCall m_ends_at [(.var 0), (.var 1)])))])
  b_marks_between_1)
  (sRet (mCB fSort [(.var 2)]))))
def m_marks_between : List O → R O := runF 3 [true, true] b_marks_between
theorem ok_marks_between (T : Fx K mg) : Cal P w K mg base "marks_between" ["d", "drawing"] 4 m_marks_between :=
  cal_of (k := 3) T.s_marks_between sc_marks_between rfl (by decide) fun X c W cdv A outer s H E f hX hW hr tk po hp hp2 => by
  subst hX; subst hW
  exact (s_seq (s_set 2 sc_marks_between.nd rfl (by first | exact .inl rfl | exact .inr rfl) (hp 2 rfl) (x_cty sv_list call_list_of rfl T.z_list bt_list (xa_cons (pv 1) xa_nil)))
    (s_seq (s_for po rfl (i_enum rfl T.z_enumerate (xa_cons (x_frz (x_call (ok_ends_at T) tk (hr.mono (by decide)) rfl rfl (xa_cons (pv 0) (xa_cons (pv 1) xa_nil)))) xa_nil)) (g_tp rfl (pgs_all_cons (i := 3) sc_marks_between.nd rfl (by first | exact .inl rfl | exact .inr rfl) (pgs_all_cons (i := 4) sc_marks_between.nd rfl (by first | exact .inl rfl | exact .inr rfl) pgs_all_nil))) (by intro i hi; simp only [List.mem_cons, List.not_mem_nil, or_false] at hi; rcases hi with rfl | rfl <;> exact hp _ rfl)
    (s_one (s_drop (x_ext 2 (pv 2) (xa_cons (x_bin sv_mul op_mulA (x_lst (xa_cons (x_tup (xa_cons (x_bin sv_add op_addQ (pv 3) x_int) (xa_cons (x_bin sv_add op_addQ (pv 0) x_int) (xa_cons x_int xa_nil)))) xa_nil)) (pv 4)) xa_nil)))))
    (s_one (s_ret (x_cb sv_sort (cr_sortD hr.units) rfl T.z_sorted bt_sorted (xa_cons (pv 2) xa_nil))))))
theorem sc_without_one : FnScope ["marks", "mark", "at"] ["marks", "mark"] (defScope (top 21)) := ⟨rfl, rfl, rfl, by decide +kernel, rfl, by decide +kernel, by decide +kernel⟩
def b_without_one : MS :=
  (sSeq (sSet 2 (mIdxOf 0 (.var 1)))
  (sRet (mBin fAdd (.ex (mSl (.var 0) none (some (.var 2)))) (.ex (mSl (.var 0) (some (.ex (mBin fAdd (.var 2) (.ex (mC (.int 1)))))) none)))))
def m_without_one : List O → R O := runF 1 [true, true] b_without_one
theorem ok_without_one (T : Fx K mg) : Cal P w K mg base "without_one" ["marks", "mark"] 1 m_without_one :=
  cal_of (k := 0) T.s_without_one sc_without_one rfl (by decide) fun X c W cdv A outer s H E f hX hW hr tk po hp hp2 => by
  subst hX; subst hW
  exact (s_seq (s_set 2 sc_without_one.nd rfl (by first | exact .inl rfl | exact .inr rfl) (hp 2 rfl) (x_indexOf 0 (u65 hr) (pv 0) (pv 1)))
    (s_one (s_ret (x_bin sv_add op_addQ (x_sl (pv 0) b_no (b_some (pv 2))) (x_sl (pv 0) (b_some (x_bin sv_add op_addQ (pv 2) x_int)) b_no)))))
theorem sc_next_marks : FnScope ["d", "floor", "left", "found", "mark"] ["d", "floor", "left"] (defScope (top 22)) := ⟨rfl, rfl, rfl, by decide +kernel, rfl, by decide +kernel, by decide +kernel⟩
def b_next_marks_1 : MS :=
  (sIf (bAnd (asB (mBin (fI iLe) (.ex (mBin fIdx (.var 4) (.ex (mC (.int 0))))) (.var 1))) (asB (mBin (fIn true) (.var 4) (.var 3))))
  (sDrop (mMth 3 fApp [(.ex (mVar 4))]))
  sNil)
def b_next_marks : MS :=
  (sSeq (sSet 3 (mLst []))
  (sSeq (sForV (.nm 4) 2
  b_next_marks_1)
  (sSeq (sIf (bAnd (asB (mBin (fI iLt) (.var 1) (.var 0))) (mTru (.ex (mCB (f1 allO) [(.ex (mLc (.nm 4) [4] (srcA (.ex (mVar 2))) bYes (mBin (fI iGt) (.ex (mBin fIdx (.var 4) (.ex (mC (.int 1))))) (.ex (mBin fAdd (.var 1) (.ex (mC (.int 1))))))))]))))
  (sDrop (mMth 3 fApp [(.ex (mTup [(.ex (mBin fAdd (.var 1) (.ex (mC (.int 1))))), (.ex (mBin fAdd (.var 1) (.ex (mC (.int 1))))), (.ex (mC (.int 0)))]))]))
  sNil)
  (sRet (mTake 3)))))
def m_next_marks : List O → R O := runF 2 [true, true, true] b_next_marks
theorem ok_next_marks (T : Fx K mg) : Cal P w K mg base "next_marks" ["d", "floor", "left"] 1 m_next_marks :=
  cal_of (k := 0) T.s_next_marks sc_next_marks rfl (by decide) fun X c W cdv A outer s H E f hX hW hr tk po hp hp2 => by
  subst hX; subst hW
  exact (s_seq (s_set 3 sc_next_marks.nd rfl (by first | exact .inl rfl | exact .inr rfl) (hp 3 rfl) (x_lst xa_nil))
    (s_seq (s_forV 2 po rfl (pv 2) (g_nm 4 sc_next_marks.nd rfl (by first | exact .inl rfl | exact .inr rfl)) (hp 4 rfl) (by decide) (hp2 2 rfl)
    (s_one (s_if (t_w (w_and (t_cmp sv_le op_le (x_idx (pv 4) x_int) (pv 1) (nomark _)) (w_and1 (t_cmp sv_in (op_notInP hr.units) (pv 4) (pv 3) rfl))))
    (s_one (s_drop (x_app 3 (pv 3) (xa_cons (x_var 4 (pv 4)) xa_nil))))
    s_nil)))
    (s_seq (s_if (t_w (w_and (t_cmp sv_lt op_lt (pv 1) (pv 0) (nomark _)) (w_and1 (t_tru (x_cb sv_all (cr_all rfl) rfl T.z_all bt_all (xa_cons (x_lcN (own := [("mark", 4)]) rfl rfl sc_next_marks.nd (i_seq (x_var 2 (pv 2))) (blkOk_by (N := ["d", "floor", "left", "found", "mark"]) (sc := defScope (top 22)) (by decide +kernel)) (fun _ _ _ _ _ => (g_nm 4 sc_next_marks.nd rfl (by first | exact .inl rfl | exact .inr rfl))) (fun _ _ _ _ _ => ts_nil) (fun _ _ _ _ _ => (x_cmp sv_gt op_gt (x_idx (pv 4) x_int) (x_bin sv_add op_addQ (pv 1) x_int) (nomark _))) (by intro i hi; simp only [List.mem_cons, List.not_mem_nil, or_false] at hi; subst hi <;> exact hp _ rfl) (by decide) (hp 4 rfl)) xa_nil))))))
    (s_one (s_drop (x_app 3 (pv 3) (xa_cons (x_tup (xa_cons (x_bin sv_add op_addQ (pv 1) x_int) (xa_cons (x_bin sv_add op_addQ (pv 1) x_int) (xa_cons x_int xa_nil)))) xa_nil))))
    s_nil)
    (s_one (s_ret (x_take 3 (pv 3)))))))
theorem sc_markings : FnScope ["d", "drawing", "between", "rows", "turn", "more", "row", "floor", "left", "mark"] ["d", "drawing"] (defScope (top 23)) := ⟨rfl, rfl, rfl, by decide +kernel, rfl, by decide +kernel, by decide +kernel⟩
def b_markings_1 : MS :=
  (sIf (asB (mBin fEq (.ex (mBin fIdx (.var 9) (.ex (mC (.int 2))))) (.ex (mC (.int 0)))))
  (sDrop (mMth 5 fApp [(.ex (mFrz (mTup [(.ex (mBin fAdd (.var 6) (.ex (mLst [(.ex (mVar 9))])))), (.ex (mBin fAdd (.var 7) (.ex (mC (.int 1))))), (.ex (mVar 8))])))]))
  (sDrop (mMth 5 fApp [(.ex (mFrz (mTup [(.ex (mBin fAdd (.var 6) (.ex (mLst [(.ex (mVar 9))])))), (.ex (mVar 7)), (.ex (mCall m_without_one [(.var 8), (.var 9)]))])))])))
def b_markings_2 : MS :=
  (sFor (.nm 9) (srcA (.ex (mCall m_next_marks [(.var 0), (.var 7), (.var 8)])))
  b_markings_1)
def b_markings_3 : MS :=
  (sSeq (sSet 5 (mLst []))
  (sSeq (sFor (.tp [6, 7, 8]) (srcA (.ex (mVar 3)))
  b_markings_2)
  (sSet 3 (mVar 5))))
def b_markings : MS :=
  (sSeq (sDrop (mCall m_asked_sound [(.var 0), (.var 1)]))
  (sSeq (sSet 2 (mCall m_marks_between [(.var 0), (.var 1)]))
  (sSeq (sSet 3 (mLst [(.ex (mFrz (mTup [(.ex (mLst [])), (.ex (mC (.int 0))), (.ex (mVar 2))])))]))
  (sSeq (sFor (.nm 4) (srcR [(.ex (mBin fAdd (.var 0) (.ex (mCB (f1 lenO) [(.var 2)]))))])
  b_markings_3)
  (sRet (mCB fSort [(.ex (mLc (.tp [6, 7, 8]) [6, 7, 8] (srcA (.ex (mVar 3))) bYes (mVar 6)))]))))))
def m_markings : List O → R O := runF 8 [true, true] b_markings
theorem ok_markings (T : Fx K mg) : Cal P w K mg base "markings" ["d", "drawing"] 6 m_markings :=
  cal_of (k := 5) T.s_markings sc_markings rfl (by decide) fun X c W cdv A outer s H E f hX hW hr tk po hp hp2 => by
  subst hX; subst hW
  exact (s_seq (s_drop (x_call (ok_asked_sound T) tk (hr.mono (by decide)) rfl rfl (xa_cons (pv 0) (xa_cons (pv 1) xa_nil))))
    (s_seq (s_set 2 sc_markings.nd rfl (by first | exact .inl rfl | exact .inr rfl) (hp 2 rfl) (x_call (ok_marks_between T) tk (hr.mono (by decide)) rfl rfl (xa_cons (pv 0) (xa_cons (pv 1) xa_nil))))
    (s_seq (s_set 3 sc_markings.nd rfl (by first | exact .inl rfl | exact .inr rfl) (hp 3 rfl) (x_lst (xa_cons (x_frz (x_tup (xa_cons (x_lst xa_nil) (xa_cons x_int (xa_cons (x_var 2 (pv 2)) xa_nil))))) xa_nil)))
    (s_seq (s_for po rfl (i_r1 rfl T.z_range (xa_cons (x_bin sv_add op_addQ (pv 0) (x_cb sv_len call_len rfl T.z_len bt_len (xa_cons (pv 2) xa_nil))) xa_nil)) (g_nm 4 sc_markings.nd rfl (by first | exact .inl rfl | exact .inr rfl)) (hp 4 rfl)
    (s_seq (s_set 5 sc_markings.nd rfl (by first | exact .inl rfl | exact .inr rfl) (hp 5 rfl) (x_lst xa_nil))
    (s_seq (s_for po rfl (i_seq (x_var 3 (pv 3))) (g_tp rfl (pgs_all_cons (i := 6) sc_markings.nd rfl (by first | exact .inl rfl | exact .inr rfl) (pgs_all_cons (i := 7) sc_markings.nd rfl (by first | exact .inl rfl | exact .inr rfl) (pgs_all_cons (i := 8) sc_markings.nd rfl (by first | exact .inl rfl | exact .inr rfl) pgs_all_nil)))) (by intro i hi; simp only [List.mem_cons, List.not_mem_nil, or_false] at hi; rcases hi with rfl | rfl | rfl <;> exact hp _ rfl)
    (s_one (s_for po rfl (i_seq (x_call (ok_next_marks T) tk (hr.mono (by decide)) rfl rfl (xa_cons (pv 0) (xa_cons (pv 7) (xa_cons (pv 8) xa_nil))))) (g_nm 9 sc_markings.nd rfl (by first | exact .inl rfl | exact .inr rfl)) (hp 9 rfl)
    (s_one (s_if (t_cmp sv_eq (op_eqP hr.units) (x_idx (pv 9) x_int) x_int (nomark _))
    (s_one (s_drop (x_app 5 (pv 5) (xa_cons (x_frz (x_tup (xa_cons (x_bin sv_add op_addQ (pv 6) (x_lst (xa_cons (x_var 9 (pv 9)) xa_nil))) (xa_cons (x_bin sv_add op_addQ (pv 7) x_int) (xa_cons (x_var 8 (pv 8)) xa_nil))))) xa_nil))))
    (s_one (s_drop (x_app 5 (pv 5) (xa_cons (x_frz (x_tup (xa_cons (x_bin sv_add op_addQ (pv 6) (x_lst (xa_cons (x_var 9 (pv 9)) xa_nil))) (xa_cons (x_var 7 (pv 7)) (xa_cons (x_call (ok_without_one T) tk (hr.mono (by decide)) rfl rfl (xa_cons (pv 8) (xa_cons (pv 9) xa_nil))) xa_nil))))) xa_nil)))))))))
    (s_one (s_set 3 sc_markings.nd rfl (by first | exact .inl rfl | exact .inr rfl) (hp 3 rfl) (x_var 5 (pv 5)))))))
    (s_one (s_ret (x_cb sv_sort (cr_sortD hr.units) rfl T.z_sorted bt_sorted (xa_cons (x_lcN (own := [("row", 6), ("floor", 7), ("left", 8)]) rfl rfl sc_markings.nd (i_seq (x_var 3 (pv 3))) (blkOk_by (N := ["d", "drawing", "between", "rows", "turn", "more", "row", "floor", "left", "mark"]) (sc := defScope (top 23)) (by decide +kernel)) (fun _ _ _ _ _ => (g_tp rfl (pgs_all_cons (i := 6) sc_markings.nd rfl (by first | exact .inl rfl | exact .inr rfl) (pgs_all_cons (i := 7) sc_markings.nd rfl (by first | exact .inl rfl | exact .inr rfl) (pgs_all_cons (i := 8) sc_markings.nd rfl (by first | exact .inl rfl | exact .inr rfl) pgs_all_nil))))) (fun _ _ _ _ _ => ts_nil) (fun _ _ _ _ _ => (x_var 6 (pv 6))) (by intro i hi; simp only [List.mem_cons, List.not_mem_nil, or_false] at hi; rcases hi with rfl | rfl | rfl <;> exact hp _ rfl) (by decide) (by intro i hi; simp only [List.mem_cons, List.not_mem_nil, or_false] at hi; rcases hi with rfl | rfl | rfl <;> exact hp _ rfl)) xa_nil))))))))
theorem sc_paper : FnScope ["d", "k", "found", "drawing", "marking"] ["d", "k"] (defScope (top 25)) := ⟨rfl, rfl, rfl, by decide +kernel, rfl, by decide +kernel, by decide +kernel⟩
def b_paper_1 : MS :=
  (sDrop (mMth 2 fApp [(.ex (mFrz (mTup [(.ex (mCB fList [(.var 3)])), (.ex (mVar 4))])))]))
def b_paper_2 : MS :=
  (sFor (.nm 4) (srcA (.ex (mCall m_markings [(.var 0), (.var 3)])))
  b_paper_1)
def b_paper : MS :=
  (sSeq (sDrop (mCall m_asked_wide [(.var 0), (.var 1)]))
  (sSeq (sIf (bAnd (asB (mBin fEq (.var 0) (.ex (mC (.int 5))))) (asB (mBin (fI iGt) (.var 1) (.ex (mC (.int 1))))))
  (sRaise "NoBound")
  sNil)
  (sSeq (sSet 2 (mLst []))
  (sSeq (sFor (.nm 3) (srcA (.ex (mCall m_drawings [(.var 0), (.var 1)])))
  b_paper_2)
  (sRet (mTake 2))))))
def m_paper : List O → R O := runF 3 [true, true] b_paper
theorem ok_paper (T : Fx K mg) : Cal P w K mg base "paper" ["d", "k"] 7 m_paper :=
  cal_of (k := 6) T.s_paper sc_paper rfl (by decide) fun X c W cdv A outer s H E f hX hW hr tk po hp hp2 => by
  subst hX; subst hW
  exact (s_seq (s_drop (x_call (ok_asked_wide T) tk (hr.mono (by decide)) rfl rfl (xa_cons (pv 0) (xa_cons (pv 1) xa_nil))))
    (s_seq (s_if (t_w (w_and (t_cmp sv_eq (op_eqP hr.units) (pv 0) x_int (nomark _)) (w_and1 (t_cmp sv_gt op_gt (pv 1) x_int (nomark _)))))
    (s_one (s_raiseX rfl tk T.x_NoBound rfl))
    s_nil)
    (s_seq (s_set 2 sc_paper.nd rfl (by first | exact .inl rfl | exact .inr rfl) (hp 2 rfl) (x_lst xa_nil))
    (s_seq (s_for po rfl (i_seq (x_call (ok_drawings T) tk (hr.mono (by decide)) rfl rfl (xa_cons (pv 0) (xa_cons (pv 1) xa_nil)))) (g_nm 3 sc_paper.nd rfl (by first | exact .inl rfl | exact .inr rfl)) (hp 3 rfl)
    (s_one (s_for po rfl (i_seq (x_call (ok_markings T) tk (hr.mono (by decide)) rfl rfl (xa_cons (pv 0) (xa_cons (pv 3) xa_nil)))) (g_nm 4 sc_paper.nd rfl (by first | exact .inl rfl | exact .inr rfl)) (hp 4 rfl)
    (s_one (s_drop (x_app 2 (pv 2) (xa_cons (x_frz (x_tup (xa_cons (x_cty sv_list call_list_of rfl T.z_list bt_list (xa_cons (pv 3) xa_nil)) (xa_cons (x_var 4 (pv 4)) xa_nil)))) xa_nil)))))))
    (s_one (s_ret (x_take 2 (pv 2))))))))
theorem sc_is_drawing : FnScope ["d", "k", "drawing", "low", "high", "weight"] ["d", "k", "drawing"] (defScope (top 26)) := ⟨rfl, rfl, rfl, by decide +kernel, rfl, by decide +kernel, by decide +kernel⟩
def b_is_drawing_1 : MS :=
  (sIf (bOr (bNot (asB (mChn (.ex (mC (.int 1))) (.more (fI iLe) (.var 3) (.more (fI iLt) (.var 4) (.one (fI iLe) (.var 0))))))) (asB (mBin (fI iLt) (.var 5) (.ex (mC (.int 1))))))
  (sRet (mC (.bool false)))
  sNil)
def b_is_drawing : MS :=
  (sSeq (sForV (.tp [3, 4, 5]) 2
  b_is_drawing_1)
  (sSeq (sIf (bOr (asB (mBin fNe (.ex (mCB (f1 lenO) [(.var 2)])) (.ex (mBin (fI iSub) (.ex (mBin (fI iDiv) (.ex (mBin fMul (.var 0) (.ex (mBin (fI iSub) (.var 0) (.ex (mC (.int 1))))))) (.ex (mC (.int 2))))) (.var 1))))) (asB (mBin fNe (.ex (mCB fSort [(.var 2)])) (.var 2))))
  (sRet (mC (.bool false)))
  sNil)
  (sRet (mCall m_sound [(.var 0), (.var 2)]))))
def m_is_drawing : List O → R O := runF 3 [true, true, true] b_is_drawing
theorem ok_is_drawing (T : Fx K mg) : Cal P w K mg base "is_drawing" ["d", "k", "drawing"] 5 m_is_drawing :=
  cal_of (k := 4) T.s_is_drawing sc_is_drawing rfl (by decide) fun X c W cdv A outer s H E f hX hW hr tk po hp hp2 => by
  subst hX; subst hW
  exact (s_seq (s_forV 2 po rfl (pv 2) (g_tp rfl (pgs_all_cons (i := 3) sc_is_drawing.nd rfl (by first | exact .inl rfl | exact .inr rfl) (pgs_all_cons (i := 4) sc_is_drawing.nd rfl (by first | exact .inl rfl | exact .inr rfl) (pgs_all_cons (i := 5) sc_is_drawing.nd rfl (by first | exact .inl rfl | exact .inr rfl) pgs_all_nil)))) (by intro i hi; simp only [List.mem_cons, List.not_mem_nil, or_false] at hi; rcases hi with rfl | rfl | rfl <;> exact hp _ rfl) (by decide) (hp2 2 rfl)
    (s_one (s_if (t_w (w_or (t_not (t_chain3 sv_le sv_lt sv_le op_le op_lt op_le x_int (pv 3) (pv 4) (pv 0))) (w_or1 (t_cmp sv_lt op_lt (pv 5) x_int (nomark _)))))
    (s_one (s_ret x_bl))
    s_nil)))
    (s_seq (s_if (t_w (w_or (t_cmp sv_ne (op_neP hr.units) (x_cb sv_len call_len rfl T.z_len bt_len (xa_cons (pv 2) xa_nil)) (x_bin sv_sub op_sub (x_bin sv_div op_fdivQ (x_bin sv_mul op_mulA (pv 0) (x_bin sv_sub op_sub (pv 0) x_int)) x_int) (pv 1)) (nomark _)) (w_or1 (t_cmp sv_ne (op_neP hr.units) (x_cb sv_sort (cr_sortD hr.units) rfl T.z_sorted bt_sorted (xa_cons (pv 2) xa_nil)) (pv 2) (nomark _)))))
    (s_one (s_ret x_bl))
    s_nil)
    (s_one (s_ret (x_call (ok_sound T) tk (hr.mono (by decide)) rfl rfl (xa_cons (pv 0) (xa_cons (pv 2) xa_nil)))))))
theorem sc_is_marking : FnScope ["d", "drawing", "marking", "floors", "passed", "low", "high", "weight", "floor"] ["d", "drawing", "marking"] (defScope (top 27)) := ⟨rfl, rfl, rfl, by decide +kernel, rfl, by decide +kernel, by decide +kernel⟩
def b_is_marking_1 : MS :=
  (sIf (asB (mBin fEq (.var 7) (.ex (mC (.int 0)))))
  (sSeq (sIf (asB (mBin fNe (.var 5) (.ex (mBin fAdd (.var 4) (.ex (mC (.int 1)))))))
  (sRet (mC (.bool false)))
  sNil)
  (sAug fAddI 4 (.ex (mC (.int 1)))))
  (sIf (bNot (asB (mChain (fI iLe) (fI iLt) (.var 5) (.var 4) (.var 6))))
  (sRet (mC (.bool false)))
  sNil))
def b_is_marking : MS :=
  (sSeq (sSet 3 (mLc (.nm 8) [8] (srcR [(.ex (mC (.int 1))), (.ex (mBin fAdd (.var 0) (.ex (mC (.int 1)))))]) bYes (mTup [(.ex (mVar 8)), (.ex (mVar 8)), (.ex (mC (.int 0)))])))
  (sSeq (sIf (asB (mBin fNe (.ex (mCB fSort [(.var 2)])) (.ex (mCB fSort [(.ex (mBin fAdd (.var 3) (.ex (mCall m_marks_between [(.var 0), (.var 1)]))))]))))
  (sRet (mC (.bool false)))
  sNil)
  (sSeq (sSet 4 (mC (.int 0)))
  (sSeq (sForV (.tp [5, 6, 7]) 2
  b_is_marking_1)
  (sRet (mC (.bool true)))))))
def m_is_marking : List O → R O := runF 6 [true, true, true] b_is_marking
theorem ok_is_marking (T : Fx K mg) : Cal P w K mg base "is_marking" ["d", "drawing", "marking"] 5 m_is_marking :=
  cal_of (k := 4) T.s_is_marking sc_is_marking rfl (by decide) fun X c W cdv A outer s H E f hX hW hr tk po hp hp2 => by
  subst hX; subst hW
  exact (s_seq (s_setLcN 3 (own := [("floor", 8)]) rfl rfl sc_is_marking.nd rfl rfl (hp 3 rfl) (sw_true rfl rfl rfl (by decide +kernel)) (i_r2 rfl T.z_range (xa_cons x_int (xa_cons (x_bin sv_add op_addQ (pv 0) x_int) xa_nil))) (blkOk_by (N := ["d", "drawing", "marking", "floors", "passed", "low", "high", "weight", "floor"]) (sc := defScope (top 27)) (by decide +kernel)) (fun _ _ _ _ _ => (g_nm 8 sc_is_marking.nd rfl (by first | exact .inl rfl | exact .inr rfl))) (fun _ _ _ _ _ => ts_nil) (fun _ _ _ _ _ => (x_tup (xa_cons (x_var 8 (pv 8)) (xa_cons (x_var 8 (pv 8)) (xa_cons x_int xa_nil))))) (by intro i hi; simp only [List.mem_cons, List.not_mem_nil, or_false] at hi; subst hi <;> exact hp _ rfl) (by decide) (hp 8 rfl))
    (s_seq (s_if (t_cmp sv_ne (op_neP hr.units) (x_cb sv_sort (cr_sortD hr.units) rfl T.z_sorted bt_sorted (xa_cons (pv 2) xa_nil)) (x_cb sv_sort (cr_sortD hr.units) rfl T.z_sorted bt_sorted (xa_cons (x_bin sv_add op_addQ (pv 3) (x_call (ok_marks_between T) tk (hr.mono (by decide)) rfl rfl (xa_cons (pv 0) (xa_cons (pv 1) xa_nil)))) xa_nil)) (nomark _))
    (s_one (s_ret x_bl))
    s_nil)
    (s_seq (s_set 4 sc_is_marking.nd rfl (by first | exact .inl rfl | exact .inr rfl) (hp 4 rfl) x_int)
    (s_seq (s_forV 2 po rfl (pv 2) (g_tp rfl (pgs_all_cons (i := 5) sc_is_marking.nd rfl (by first | exact .inl rfl | exact .inr rfl) (pgs_all_cons (i := 6) sc_is_marking.nd rfl (by first | exact .inl rfl | exact .inr rfl) (pgs_all_cons (i := 7) sc_is_marking.nd rfl (by first | exact .inl rfl | exact .inr rfl) pgs_all_nil)))) (by intro i hi; simp only [List.mem_cons, List.not_mem_nil, or_false] at hi; rcases hi with rfl | rfl | rfl <;> exact hp _ rfl) (by decide) (hp2 2 rfl)
    (s_one (s_if (t_cmp sv_eq (op_eqP hr.units) (pv 7) x_int (nomark _))
    (s_seq (s_if (t_cmp sv_ne (op_neP hr.units) (pv 5) (x_bin sv_add op_addQ (pv 4) x_int) (nomark _))
    (s_one (s_ret x_bl))
    s_nil)
    (s_one (s_aug sv_addI iop_addI 4 sc_is_marking.nd rfl (by first | exact .inl rfl | exact .inr rfl) (hp 4 rfl) x_int)))
    (s_one (s_if (t_not (t_chain sv_le sv_lt op_le op_lt (pv 5) (pv 4) (pv 6)))
    (s_one (s_ret x_bl))
    s_nil)))))
    (s_one (s_ret x_bl))))))
theorem sc_weighed : FnScope ["d", "k", "some", "seen", "total", "drawing", "marking", "mark"] ["d", "k", "some"] (defScope (top 28)) := ⟨rfl, rfl, rfl, by decide +kernel, rfl, by decide +kernel, by decide +kernel⟩
def b_weighed_1 : MS :=
  (sSeq (sIf (bOr (bNot (mTru (.ex (mCall m_is_drawing [(.var 0), (.var 1), (.var 5)])))) (bNot (mTru (.ex (mCall m_is_marking [(.var 0), (.var 5), (.var 6)])))))
  (sRet (mC .none))
  sNil)
  (sSeq (sSet 7 (mTup [(.ex (mCB fTuple [(.var 5)])), (.ex (mCB fTuple [(.var 6)]))]))
  (sSeq (sIf (asB (mBin (fNIn false) (.var 7) (.var 3)))
  (sRet (mC .none))
  sNil)
  (sSeq (sNSet 3 (.var 7) (mC (.bool true)))
  (sAug fAddI 4 (.ex (mCall m_worth [(.var 5)])))))))
def b_weighed : MS :=
  (sSeq (sDrop (mCall m_asked_wide [(.var 0), (.var 1)]))
  (sSeq (sSet 3 mNLit0)
  (sSeq (sSet 4 (mC (.int 0)))
  (sSeq (sForV (.tp [5, 6]) 2
  b_weighed_1)
  (sRet (mTake 4))))))
def m_weighed : List O → R O := runF 5 [true, true, true] b_weighed
theorem ok_weighed (T : Fx K mg) : Cal P w K mg base "weighed" ["d", "k", "some"] 6 m_weighed :=
  cal_of (k := 5) T.s_weighed sc_weighed rfl (by decide) fun X c W cdv A outer s H E f hX hW hr tk po hp hp2 => by
  subst hX; subst hW
  exact (s_seq (s_drop (x_call (ok_asked_wide T) tk (hr.mono (by decide)) rfl rfl (xa_cons (pv 0) (xa_cons (pv 1) xa_nil))))
    (s_seq (s_set 3 sc_weighed.nd rfl (by first | exact .inl rfl | exact .inr rfl) (hp 3 rfl) x_nlit0)
    (s_seq (s_set 4 sc_weighed.nd rfl (by first | exact .inl rfl | exact .inr rfl) (hp 4 rfl) x_int)
    (s_seq (s_forV 2 po rfl (pv 2) (g_tp rfl (pgs_all_cons (i := 5) sc_weighed.nd rfl (by first | exact .inl rfl | exact .inr rfl) (pgs_all_cons (i := 6) sc_weighed.nd rfl (by first | exact .inl rfl | exact .inr rfl) pgs_all_nil))) (by intro i hi; simp only [List.mem_cons, List.not_mem_nil, or_false] at hi; rcases hi with rfl | rfl <;> exact hp _ rfl) (by decide) (hp2 2 rfl)
    (s_seq (s_if (t_w (w_or (t_not (t_tru (x_call (ok_is_drawing T) tk (hr.mono (by decide)) rfl rfl (xa_cons (pv 0) (xa_cons (pv 1) (xa_cons (pv 5) xa_nil)))))) (w_or1 (t_not (t_tru (x_call (ok_is_marking T) tk (hr.mono (by decide)) rfl rfl (xa_cons (pv 0) (xa_cons (pv 5) (xa_cons (pv 6) xa_nil)))))))))
    (s_one (s_ret x_non))
    s_nil)
    (s_seq (s_set 7 sc_weighed.nd rfl (by first | exact .inl rfl | exact .inr rfl) (hp 7 rfl) (x_tup (xa_cons (x_cty sv_tuple call_tuple_of rfl T.z_tuple bt_tuple (xa_cons (pv 5) xa_nil)) (xa_cons (x_cty sv_tuple call_tuple_of rfl T.z_tuple bt_tuple (xa_cons (pv 6) xa_nil)) xa_nil))))
    (s_seq (s_if (t_cmp sv_nIn (op_nIn hr.units) (pv 7) (pv 3) rfl)
    (s_one (s_ret x_non))
    s_nil)
    (s_seq (s_nset hr.units 3 (pv 3) (pv 7) x_bl)
    (s_one (s_aug sv_addI iop_addI 4 sc_weighed.nd rfl (by first | exact .inl rfl | exact .inr rfl) (hp 4 rfl) (x_call (ok_worth T) tk (hr.mono (by decide)) rfl rfl (xa_cons (pv 5) xa_nil)))))))))
    (s_one (s_ret (x_take 4 (pv 4))))))))
theorem sc__law_cell_at : FnScope ["_law_script", "_law_k"] ["_law_script", "_law_k"] (defScope (top 30)) := ⟨rfl, rfl, rfl, by decide +kernel, rfl, by decide +kernel, by decide +kernel⟩
def b__law_cell_at : MS :=
  (sSeq (sIf (asB (mBin (fI iLt) (.var 1) (.ex (mCB (f1 lenO) [(.var 0)]))))
  (sRet (mBin fIdx (.var 0) (.var 1)))
  sNil)
  (sRet (mC (.int 0))))
def m__law_cell_at : List O → R O := runF 0 [true, true] b__law_cell_at
theorem ok__law_cell_at (T : Fx K mg) : Cal P w K mg base "_law_cell_at" ["_law_script", "_law_k"] 1 m__law_cell_at :=
  cal_of (k := 0) T.s__law_cell_at sc__law_cell_at rfl (by decide) fun X c W cdv A outer s H E f hX hW hr tk po hp hp2 => by
  subst hX; subst hW
  exact (s_seq (s_if (t_cmp sv_lt op_lt (pv 1) (x_cb sv_len call_len rfl T.z_len bt_len (xa_cons (pv 0) xa_nil)) (nomark _))
    (s_one (s_ret (x_idx (pv 0) (pv 1))))
    s_nil)
    (s_one (s_ret x_int)))
theorem sc__law_bag : FnScope ["_law_cell", "_law_place", "_law_far"] ["_law_cell", "_law_place"] (defScope (top 31)) := ⟨rfl, rfl, rfl, by decide +kernel, rfl, by decide +kernel, by decide +kernel⟩
def b__law_bag : MS :=
  (sSeq (sSet 2 (mCB (f1 absO) [(.var 0)]))
  (sSeq (sIf (asB (mBin (fI iLt) (.var 2) (.ex (mBin (fI iPow) (.ex (mC (.int 10))) (.ex (mC (.int 18)))))))
  (sSet 2 (mC (.int 0)))
  sNil)
  (sRet (mLst [(.ex (mVar 2)), (.ex (mBin (fI iMod) (.ex (mBin fAdd (.ex (mBin fAdd (.ex (mBin fMul (.ex (mBin (fI iMod) (.var 0) (.ex (mC (.int 2147483647))))) (.ex (mC (.int 69621))))) (.ex (mBin fMul (.ex (mC (.int 7919))) (.var 1))))) (.ex (mC (.int 13))))) (.ex (mC (.int 2147483647)))))]))))
def m__law_bag : List O → R O := runF 1 [true, true] b__law_bag
theorem ok__law_bag (T : Fx K mg) : Cal P w K mg base "_law_bag" ["_law_cell", "_law_place"] 1 m__law_bag :=
  cal_of (k := 0) T.s__law_bag sc__law_bag rfl (by decide) fun X c W cdv A outer s H E f hX hW hr tk po hp hp2 => by
  subst hX; subst hW
  exact (s_seq (s_set 2 sc__law_bag.nd rfl (by first | exact .inl rfl | exact .inr rfl) (hp 2 rfl) (x_cb sv_abs call_abs rfl T.z_abs bt_abs (xa_cons (pv 0) xa_nil)))
    (s_seq (s_if (t_cmp sv_lt op_lt (pv 2) (x_bin sv_pow op_pow x_int x_int) (nomark _))
    (s_one (s_set 2 sc__law_bag.nd rfl (by first | exact .inl rfl | exact .inr rfl) (hp 2 rfl) x_int))
    s_nil)
    (s_one (s_ret (x_lst (xa_cons (x_var 2 (pv 2)) (xa_cons (x_bin sv_mod op_modN (x_bin sv_add op_addQ (x_bin sv_add op_addQ (x_bin sv_mul op_mulA (x_bin sv_mod op_modN (pv 0) x_int) x_int) (x_bin sv_mul op_mulA x_int (pv 1))) x_int) x_int) xa_nil)))))))
theorem sc__law_mixed : FnScope ["_law_bag_here"] ["_law_bag_here"] (defScope (top 32)) := ⟨rfl, rfl, rfl, by decide +kernel, rfl, by decide +kernel, by decide +kernel⟩
def b__law_mixed : MS :=
  (sSeq (sSetIx 0 (.ex (mC (.int 1))) (mBin (fI iMod) (.ex (mBin fAdd (.ex (mBin fMul (.ex (mBin fIdx (.var 0) (.ex (mC (.int 1))))) (.ex (mC (.int 48271))))) (.ex (mC (.int 11))))) (.ex (mC (.int 2147483647)))))
  (sRet (mBin (fI iDiv) (.ex (mBin (fI iMod) (.ex (mBin fMul (.ex (mBin fIdx (.var 0) (.ex (mC (.int 1))))) (.ex (mC (.int 16807))))) (.ex (mC (.int 2147483629))))) (.ex (mC (.int 8))))))
def m__law_mixed : List O → R O := runF 0 [true] b__law_mixed
theorem ok__law_mixed (T : Fx K mg) : Cal P w K mg base "_law_mixed" ["_law_bag_here"] 1 m__law_mixed :=
  cal_of (k := 0) T.s__law_mixed sc__law_mixed rfl (by decide) fun X c W cdv A outer s H E f hX hW hr tk po hp hp2 => by
  subst hX; subst hW
  exact (s_seq (s_setIx 0 (pv 0) x_int (x_bin sv_mod op_modN (x_bin sv_add op_addQ (x_bin sv_mul op_mulA (x_idx (pv 0) x_int) x_int) x_int) x_int))
    (s_one (s_ret (x_bin sv_div op_fdivQ (x_bin sv_mod op_modN (x_bin sv_mul op_mulA (x_idx (pv 0) x_int) x_int) x_int) x_int))))
theorem sc__law_digit : FnScope ["_law_bag_here", "_law_many", "_law_found", "_law_k"] ["_law_bag_here", "_law_many"] (defScope (top 33)) := ⟨rfl, rfl, rfl, by decide +kernel, rfl, by decide +kernel, by decide +kernel⟩
def b__law_digit_1 : MS :=
  (sSet 2 (mBin fAdd (.ex (mBin fMul (.var 2) (.ex (mC (.int 268435399))))) (.ex (mCall m__law_mixed [(.var 0)]))))
def b__law_digit : MS :=
  (sSeq (sIf (asB (mBin (fI iGt) (.ex (mBin fIdx (.var 0) (.ex (mC (.int 0))))) (.ex (mC (.int 0)))))
  (sSeq (sSet 2 (mBin (fI iMod) (.ex (mBin fIdx (.var 0) (.ex (mC (.int 0))))) (.var 1)))
  (sSeq (sSetIx 0 (.ex (mC (.int 0))) (mBin (fI iDiv) (.ex (mBin fIdx (.var 0) (.ex (mC (.int 0))))) (.var 1)))
  (sRet (mTake 2))))
  sNil)
  (sSeq (sSet 2 (mCall m__law_mixed [(.var 0)]))
  (sSeq (sIf (asB (mBin (fI iGt) (.var 1) (.ex (mC (.int 1000)))))
  (sFor (.nm 3) (srcR [(.ex (mC (.int 7)))])
  b__law_digit_1)
  sNil)
  (sRet (mBin (fI iMod) (.var 2) (.var 1))))))
def m__law_digit : List O → R O := runF 2 [true, true] b__law_digit
theorem ok__law_digit (T : Fx K mg) : Cal P w K mg base "_law_digit" ["_law_bag_here", "_law_many"] 2 m__law_digit :=
  cal_of (k := 1) T.s__law_digit sc__law_digit rfl (by decide) fun X c W cdv A outer s H E f hX hW hr tk po hp hp2 => by
  subst hX; subst hW
  exact (s_seq (s_if (t_cmp sv_gt op_gt (x_idx (pv 0) x_int) x_int (nomark _))
    (s_seq (s_set 2 sc__law_digit.nd rfl (by first | exact .inl rfl | exact .inr rfl) (hp 2 rfl) (x_bin sv_mod op_modN (x_idx (pv 0) x_int) (pv 1)))
    (s_seq (s_setIx 0 (pv 0) x_int (x_bin sv_div op_fdivQ (x_idx (pv 0) x_int) (pv 1)))
    (s_one (s_ret (x_take 2 (pv 2))))))
    s_nil)
    (s_seq (s_set 2 sc__law_digit.nd rfl (by first | exact .inl rfl | exact .inr rfl) (hp 2 rfl) (x_call (ok__law_mixed T) tk (hr.mono (by decide)) rfl rfl (xa_cons (pv 0) xa_nil)))
    (s_seq (s_if (t_cmp sv_gt op_gt (pv 1) x_int (nomark _))
    (s_one (s_for po rfl (i_r1 rfl T.z_range (xa_cons x_int xa_nil)) (g_nm 3 sc__law_digit.nd rfl (by first | exact .inl rfl | exact .inr rfl)) (hp 3 rfl)
    (s_one (s_set 2 sc__law_digit.nd rfl (by first | exact .inl rfl | exact .inr rfl) (hp 2 rfl) (x_bin sv_add op_addQ (x_bin sv_mul op_mulA (pv 2) x_int) (x_call (ok__law_mixed T) tk (hr.mono (by decide)) rfl rfl (xa_cons (pv 0) xa_nil)))))))
    s_nil)
    (s_one (s_ret (x_bin sv_mod op_modN (pv 2) (pv 1)))))))
theorem sc__law_marks : FnScope ["_law_d", "_law_drawing", "_law_found", "_law_floor", "_law_many", "_law_turn", "_law_lift"] ["_law_d", "_law_drawing"] (defScope (top 34)) := ⟨rfl, rfl, rfl, by decide +kernel, rfl, by decide +kernel, by decide +kernel⟩
def b__law_marks_1 : MS :=
  (sDrop (mMth 2 fApp [(.ex (mTup [(.ex (mVar 3)), (.ex (mBin fAdd (.var 0) (.ex (mC (.int 1))))), (.ex (mC (.int 1)))]))]))
def b__law_marks_2 : MS :=
  (sSeq (sSet 4 (mBin fAdd (.ex (mC (.int 1))) (.ex (mCB (f1 sumO) [(.ex (mLc (.nm 6) [6] (srcA (.ex (mVar 1))) (asB (mBin fEq (.ex (mBin fIdx (.var 6) (.ex (mC (.int 1))))) (.var 3))) (mBin fIdx (.var 6) (.ex (mC (.int 2))))))]))))
  (sSeq (sSet 4 (mBin (fI iSub) (.var 4) (.ex (mCB (f1 sumO) [(.ex (mLc (.nm 6) [6] (srcA (.ex (mVar 1))) (asB (mBin fEq (.ex (mBin fIdx (.var 6) (.ex (mC (.int 0))))) (.var 3))) (mBin fIdx (.var 6) (.ex (mC (.int 2))))))]))))
  (sFor (.nm 5) (srcR [(.var 4)])
  b__law_marks_1)))
def b__law_marks : MS :=
  (sSeq (sSet 2 (mCB fList [(.var 1)]))
  (sSeq (sFor (.nm 3) (srcR [(.ex (mC (.int 1))), (.ex (mBin fAdd (.var 0) (.ex (mC (.int 1)))))])
  b__law_marks_2)
  (sRet (mTake 2))))
def m__law_marks : List O → R O := runF 5 [true, true] b__law_marks
theorem ok__law_marks (T : Fx K mg) : Cal P w K mg base "_law_marks" ["_law_d", "_law_drawing"] 1 m__law_marks :=
  cal_of (k := 0) T.s__law_marks sc__law_marks rfl (by decide) fun X c W cdv A outer s H E f hX hW hr tk po hp hp2 => by
  subst hX; subst hW
  exact (s_seq (s_set 2 sc__law_marks.nd rfl (by first | exact .inl rfl | exact .inr rfl) (hp 2 rfl) (x_cty sv_list call_list_of rfl T.z_list bt_list (xa_cons (pv 1) xa_nil)))
    (s_seq (s_for po rfl (i_r2 rfl T.z_range (xa_cons x_int (xa_cons (x_bin sv_add op_addQ (pv 0) x_int) xa_nil))) (g_nm 3 sc__law_marks.nd rfl (by first | exact .inl rfl | exact .inr rfl)) (hp 3 rfl)
    (s_seq (s_set 4 sc__law_marks.nd rfl (by first | exact .inl rfl | exact .inr rfl) (hp 4 rfl) (x_bin sv_add op_addQ x_int (x_cb sv_sum (cr_sum rfl) rfl T.z_sum bt_sum (xa_cons (x_lcN (own := [("_law_lift", 6)]) rfl rfl sc__law_marks.nd (i_seq (x_var 1 (pv 1))) (blkOk_by (N := ["_law_d", "_law_drawing", "_law_found", "_law_floor", "_law_many", "_law_turn", "_law_lift"]) (sc := defScope (top 34)) (by decide +kernel)) (fun _ _ _ _ _ => (g_nm 6 sc__law_marks.nd rfl (by first | exact .inl rfl | exact .inr rfl))) (fun _ _ _ _ _ => (ts_one (t_cmp sv_eq (op_eqP hr.units) (x_idx (pv 6) x_int) (pv 3) (nomark _)))) (fun _ _ _ _ _ => (x_idx (pv 6) x_int)) (by intro i hi; simp only [List.mem_cons, List.not_mem_nil, or_false] at hi; subst hi <;> exact hp _ rfl) (by decide) (hp 6 rfl)) xa_nil))))
    (s_seq (s_set 4 sc__law_marks.nd rfl (by first | exact .inl rfl | exact .inr rfl) (hp 4 rfl) (x_bin sv_sub op_sub (pv 4) (x_cb sv_sum (cr_sum rfl) rfl T.z_sum bt_sum (xa_cons (x_lcN (own := [("_law_lift", 6)]) rfl rfl sc__law_marks.nd (i_seq (x_var 1 (pv 1))) (blkOk_by (N := ["_law_d", "_law_drawing", "_law_found", "_law_floor", "_law_many", "_law_turn", "_law_lift"]) (sc := defScope (top 34)) (by decide +kernel)) (fun _ _ _ _ _ => (g_nm 6 sc__law_marks.nd rfl (by first | exact .inl rfl | exact .inr rfl))) (fun _ _ _ _ _ => (ts_one (t_cmp sv_eq (op_eqP hr.units) (x_idx (pv 6) x_int) (pv 3) (nomark _)))) (fun _ _ _ _ _ => (x_idx (pv 6) x_int)) (by intro i hi; simp only [List.mem_cons, List.not_mem_nil, or_false] at hi; subst hi <;> exact hp _ rfl) (by decide) (hp 6 rfl)) xa_nil))))
    (s_one (s_for po rfl (i_r1 rfl T.z_range (xa_cons (pv 4) xa_nil)) (g_nm 5 sc__law_marks.nd rfl (by first | exact .inl rfl | exact .inr rfl)) (hp 5 rfl)
    (s_one (s_drop (x_app 2 (pv 2) (xa_cons (x_tup (xa_cons (x_var 3 (pv 3)) (xa_cons (x_bin sv_add op_addQ (pv 0) x_int) (xa_cons x_int xa_nil)))) xa_nil)))))))))
    (s_one (s_ret (x_take 2 (pv 2))))))
theorem sc__law_is_right : FnScope ["_law_one", "_law_d", "_law_k", "_law_drawing", "_law_marking", "_law_ends", "_law_low", "_law_high", "_law_weight", "_law_floors", "_law_passed", "_law_floor"] ["_law_one", "_law_d", "_law_k"] (defScope (top 35)) := ⟨rfl, rfl, rfl, by decide +kernel, rfl, by decide +kernel, by decide +kernel⟩
def b__law_is_right_1 : MS :=
  (sSeq (sIf (bOr (bNot (asB (mChn (.ex (mC (.int 1))) (.more (fI iLe) (.var 6) (.more (fI iLt) (.var 7) (.one (fI iLe) (.var 1))))))) (asB (mBin (fI iLt) (.var 8) (.ex (mC (.int 1))))))
  (sRet (mC (.bool false)))
  sNil)
  (sSeq (sSetIx 5 (.ex (mBin (fI iSub) (.var 6) (.ex (mC (.int 1))))) (mBin (fI iSub) (.ex (mBin fIdx (.var 5) (.ex (mBin (fI iSub) (.var 6) (.ex (mC (.int 1))))))) (.var 8)))
  (sSetIx 5 (.ex (mBin (fI iSub) (.var 7) (.ex (mC (.int 1))))) (mBin fAdd (.ex (mBin fIdx (.var 5) (.ex (mBin (fI iSub) (.var 7) (.ex (mC (.int 1))))))) (.var 8)))))
def b__law_is_right_2 : MS :=
  (sSeq (sIf (bOr (bAnd (asB (mBin fEq (.var 8) (.ex (mC (.int 0))))) (asB (mBin fNe (.var 6) (.ex (mBin fAdd (.var 10) (.ex (mC (.int 1)))))))) (bAnd (asB (mBin (fI iGt) (.var 8) (.ex (mC (.int 0))))) (bNot (asB (mChain (fI iLe) (fI iLt) (.var 6) (.var 10) (.var 7))))))
  (sRet (mC (.bool false)))
  sNil)
  (sSet 10 (mBin fAdd (.var 10) (.ex (mCB (f1 intO) [(.ex (mBin fEq (.var 8) (.ex (mC (.int 0)))))])))))
def b__law_is_right : MS :=
  (sSeq (sUnp [3, 4] (mVar 0))
  (sSeq (sSet 5 (mBin fMul (.ex (mLst [(.ex (mC (.int 1)))])) (.var 1)))
  (sSeq (sFor (.tp [6, 7, 8]) (srcA (.ex (mVar 3)))
  b__law_is_right_1)
  (sSeq (sIf (bOr (asB (mBin (fI iLt) (.ex (mCB (f1 minO) [(.var 5)])) (.ex (mC (.int 0))))) (bOr (asB (mBin fNe (.ex (mCB (f1 lenO) [(.var 3)])) (.ex (mBin (fI iSub) (.ex (mBin (fI iDiv) (.ex (mBin fMul (.var 1) (.ex (mBin (fI iSub) (.var 1) (.ex (mC (.int 1))))))) (.ex (mC (.int 2))))) (.var 2))))) (asB (mBin fNe (.ex (mCB fSort [(.var 3)])) (.var 3)))))
  (sRet (mC (.bool false)))
  sNil)
  (sSeq (sSet 9 (mLc (.nm 11) [11] (srcR [(.ex (mC (.int 1))), (.ex (mBin fAdd (.var 1) (.ex (mC (.int 1)))))]) bYes (mTup [(.ex (mVar 11)), (.ex (mVar 11)), (.ex (mC (.int 0)))])))
  (sSeq (sIf (asB (mBin fNe (.ex (mCB fSort [(.var 4)])) (.ex (mCB fSort [(.ex (mBin fAdd (.var 9) (.ex (mCall m__law_marks [(.var 1), (.var 3)]))))]))))
  (sRet (mC (.bool false)))
  sNil)
  (sSeq (sSet 10 (mC (.int 0)))
  (sSeq (sFor (.tp [6, 7, 8]) (srcA (.ex (mVar 4)))
  b__law_is_right_2)
  (sRet (mC (.bool true)))))))))))
def m__law_is_right : List O → R O := runF 9 [true, true, true] b__law_is_right
theorem ok__law_is_right (T : Fx K mg) : Cal P w K mg base "_law_is_right" ["_law_one", "_law_d", "_law_k"] 2 m__law_is_right :=
  cal_of (k := 1) T.s__law_is_right sc__law_is_right rfl (by decide) fun X c W cdv A outer s H E f hX hW hr tk po hp hp2 => by
  subst hX; subst hW
  exact (s_seq (s_unp (is := [3, 4]) (g_tp rfl (pgs_all_cons (i := 3) sc__law_is_right.nd rfl (by first | exact .inl rfl | exact .inr rfl) (pgs_all_cons (i := 4) sc__law_is_right.nd rfl (by first | exact .inl rfl | exact .inr rfl) pgs_all_nil))) (by intro i hi; simp only [List.mem_cons, List.not_mem_nil, or_false] at hi; rcases hi with rfl | rfl <;> exact hp _ rfl) (x_var 0 (pv 0)))
    (s_seq (s_set 5 sc__law_is_right.nd rfl (by first | exact .inl rfl | exact .inr rfl) (hp 5 rfl) (x_bin sv_mul op_mulA (x_lst (xa_cons x_int xa_nil)) (pv 1)))
    (s_seq (s_for po rfl (i_seq (x_var 3 (pv 3))) (g_tp rfl (pgs_all_cons (i := 6) sc__law_is_right.nd rfl (by first | exact .inl rfl | exact .inr rfl) (pgs_all_cons (i := 7) sc__law_is_right.nd rfl (by first | exact .inl rfl | exact .inr rfl) (pgs_all_cons (i := 8) sc__law_is_right.nd rfl (by first | exact .inl rfl | exact .inr rfl) pgs_all_nil)))) (by intro i hi; simp only [List.mem_cons, List.not_mem_nil, or_false] at hi; rcases hi with rfl | rfl | rfl <;> exact hp _ rfl)
    (s_seq (s_if (t_w (w_or (t_not (t_chain3 sv_le sv_lt sv_le op_le op_lt op_le x_int (pv 6) (pv 7) (pv 1))) (w_or1 (t_cmp sv_lt op_lt (pv 8) x_int (nomark _)))))
    (s_one (s_ret x_bl))
    s_nil)
    (s_seq (s_setIx 5 (pv 5) (x_bin sv_sub op_sub (pv 6) x_int) (x_bin sv_sub op_sub (x_idx (pv 5) (x_bin sv_sub op_sub (pv 6) x_int)) (pv 8)))
    (s_one (s_setIx 5 (pv 5) (x_bin sv_sub op_sub (pv 7) x_int) (x_bin sv_add op_addQ (x_idx (pv 5) (x_bin sv_sub op_sub (pv 7) x_int)) (pv 8)))))))
    (s_seq (s_if (t_w (w_or (t_cmp sv_lt op_lt (x_cb sv_minL (cr_min rfl) rfl T.z_min bt_min (xa_cons (pv 5) xa_nil)) x_int (nomark _)) (w_or (t_cmp sv_ne (op_neP hr.units) (x_cb sv_len call_len rfl T.z_len bt_len (xa_cons (pv 3) xa_nil)) (x_bin sv_sub op_sub (x_bin sv_div op_fdivQ (x_bin sv_mul op_mulA (pv 1) (x_bin sv_sub op_sub (pv 1) x_int)) x_int) (pv 2)) (nomark _)) (w_or1 (t_cmp sv_ne (op_neP hr.units) (x_cb sv_sort (cr_sortD hr.units) rfl T.z_sorted bt_sorted (xa_cons (pv 3) xa_nil)) (pv 3) (nomark _))))))
    (s_one (s_ret x_bl))
    s_nil)
    (s_seq (s_setLcN 9 (own := [("_law_floor", 11)]) rfl rfl sc__law_is_right.nd rfl rfl (hp 9 rfl) (sw_true rfl rfl rfl (by decide +kernel)) (i_r2 rfl T.z_range (xa_cons x_int (xa_cons (x_bin sv_add op_addQ (pv 1) x_int) xa_nil))) (blkOk_by (N := ["_law_one", "_law_d", "_law_k", "_law_drawing", "_law_marking", "_law_ends", "_law_low", "_law_high", "_law_weight", "_law_floors", "_law_passed", "_law_floor"]) (sc := defScope (top 35)) (by decide +kernel)) (fun _ _ _ _ _ => (g_nm 11 sc__law_is_right.nd rfl (by first | exact .inl rfl | exact .inr rfl))) (fun _ _ _ _ _ => ts_nil) (fun _ _ _ _ _ => (x_tup (xa_cons (x_var 11 (pv 11)) (xa_cons (x_var 11 (pv 11)) (xa_cons x_int xa_nil))))) (by intro i hi; simp only [List.mem_cons, List.not_mem_nil, or_false] at hi; subst hi <;> exact hp _ rfl) (by decide) (hp 11 rfl))
    (s_seq (s_if (t_cmp sv_ne (op_neP hr.units) (x_cb sv_sort (cr_sortD hr.units) rfl T.z_sorted bt_sorted (xa_cons (pv 4) xa_nil)) (x_cb sv_sort (cr_sortD hr.units) rfl T.z_sorted bt_sorted (xa_cons (x_bin sv_add op_addQ (pv 9) (x_call (ok__law_marks T) tk (hr.mono (by decide)) rfl rfl (xa_cons (pv 1) (xa_cons (pv 3) xa_nil)))) xa_nil)) (nomark _))
    (s_one (s_ret x_bl))
    s_nil)
    (s_seq (s_set 10 sc__law_is_right.nd rfl (by first | exact .inl rfl | exact .inr rfl) (hp 10 rfl) x_int)
    (s_seq (s_for po rfl (i_seq (x_var 4 (pv 4))) (g_tp rfl (pgs_all_cons (i := 6) sc__law_is_right.nd rfl (by first | exact .inl rfl | exact .inr rfl) (pgs_all_cons (i := 7) sc__law_is_right.nd rfl (by first | exact .inl rfl | exact .inr rfl) (pgs_all_cons (i := 8) sc__law_is_right.nd rfl (by first | exact .inl rfl | exact .inr rfl) pgs_all_nil)))) (by intro i hi; simp only [List.mem_cons, List.not_mem_nil, or_false] at hi; rcases hi with rfl | rfl | rfl <;> exact hp _ rfl)
    (s_seq (s_if (t_w (w_or (t_w (w_and (t_cmp sv_eq (op_eqP hr.units) (pv 8) x_int (nomark _)) (w_and1 (t_cmp sv_ne (op_neP hr.units) (pv 6) (x_bin sv_add op_addQ (pv 10) x_int) (nomark _))))) (w_or1 (t_w (w_and (t_cmp sv_gt op_gt (pv 8) x_int (nomark _)) (w_and1 (t_not (t_chain sv_le sv_lt op_le op_lt (pv 6) (pv 10) (pv 7)))))))))
    (s_one (s_ret x_bl))
    s_nil)
    (s_one (s_set 10 sc__law_is_right.nd rfl (by first | exact .inl rfl | exact .inr rfl) (hp 10 rfl) (x_bin sv_add op_addQ (pv 10) (x_cty sv_int call_int1 rfl T.z_int bt_int (xa_cons (x_cmp sv_eq (op_eqP hr.units) (pv 8) x_int (nomark _)) xa_nil)))))))
    (s_one (s_ret x_bl))))))))))
theorem sc__law_due : FnScope ["_law_some", "_law_d", "_law_k", "_law_total", "_law_at", "_law_squares", "_law_low", "_law_high", "_law_weight"] ["_law_some", "_law_d", "_law_k"] (defScope (top 36)) := ⟨rfl, rfl, rfl, by decide +kernel, rfl, by decide +kernel, by decide +kernel⟩
def b__law_due_1 : MS :=
  (sSet 5 (mBin fMul (.ex (mBin fMul (.var 5) (.var 8))) (.var 8)))
def b__law_due_2 : MS :=
  (sSeq (sIf (bOr (bNot (mTru (.ex (mCall m__law_is_right [(.ex (mBin fIdx (.var 0) (.var 4))), (.var 1), (.var 2)])))) (asB (mBin (fIn false) (.ex (mBin fIdx (.var 0) (.var 4))) (.ex (mSl (.var 0) none (some (.var 4)))))))
  (sRet (mC .none))
  sNil)
  (sSeq (sSet 5 (mC (.int 1)))
  (sSeq (sFor (.tp [6, 7, 8]) (srcA (.ex (mBin fIdx (.ex (mBin fIdx (.var 0) (.var 4))) (.ex (mC (.int 0))))))
  b__law_due_1)
  (sSet 3 (mBin fAdd (.var 3) (.var 5))))))
def b__law_due : MS :=
  (sSeq (sSet 3 (mC (.int 0)))
  (sSeq (sFor (.nm 4) (srcR [(.ex (mCB (f1 lenO) [(.var 0)]))])
  b__law_due_2)
  (sRet (mTake 3))))
def m__law_due : List O → R O := runF 6 [true, true, true] b__law_due
theorem ok__law_due (T : Fx K mg) : Cal P w K mg base "_law_due" ["_law_some", "_law_d", "_law_k"] 3 m__law_due :=
  cal_of (k := 2) T.s__law_due sc__law_due rfl (by decide) fun X c W cdv A outer s H E f hX hW hr tk po hp hp2 => by
  subst hX; subst hW
  exact (s_seq (s_set 3 sc__law_due.nd rfl (by first | exact .inl rfl | exact .inr rfl) (hp 3 rfl) x_int)
    (s_seq (s_for po rfl (i_r1 rfl T.z_range (xa_cons (x_cb sv_len call_len rfl T.z_len bt_len (xa_cons (pv 0) xa_nil)) xa_nil)) (g_nm 4 sc__law_due.nd rfl (by first | exact .inl rfl | exact .inr rfl)) (hp 4 rfl)
    (s_seq (s_if (t_w (w_or (t_not (t_tru (x_call (ok__law_is_right T) tk (hr.mono (by decide)) rfl rfl (xa_cons (x_idx (pv 0) (pv 4)) (xa_cons (pv 1) (xa_cons (pv 2) xa_nil)))))) (w_or1 (t_cmp sv_in (op_inP hr.units) (x_idx (pv 0) (pv 4)) (x_sl (pv 0) b_no (b_some (pv 4))) rfl))))
    (s_one (s_ret x_non))
    s_nil)
    (s_seq (s_set 5 sc__law_due.nd rfl (by first | exact .inl rfl | exact .inr rfl) (hp 5 rfl) x_int)
    (s_seq (s_for po rfl (i_seq (x_idx (x_idx (pv 0) (pv 4)) x_int)) (g_tp rfl (pgs_all_cons (i := 6) sc__law_due.nd rfl (by first | exact .inl rfl | exact .inr rfl) (pgs_all_cons (i := 7) sc__law_due.nd rfl (by first | exact .inl rfl | exact .inr rfl) (pgs_all_cons (i := 8) sc__law_due.nd rfl (by first | exact .inl rfl | exact .inr rfl) pgs_all_nil)))) (by intro i hi; simp only [List.mem_cons, List.not_mem_nil, or_false] at hi; rcases hi with rfl | rfl | rfl <;> exact hp _ rfl)
    (s_one (s_set 5 sc__law_due.nd rfl (by first | exact .inl rfl | exact .inr rfl) (hp 5 rfl) (x_bin sv_mul op_mulA (x_bin sv_mul op_mulA (pv 5) (pv 8)) (pv 8)))))
    (s_one (s_set 3 sc__law_due.nd rfl (by first | exact .inl rfl | exact .inr rfl) (hp 3 rfl) (x_bin sv_add op_addQ (pv 3) (pv 5))))))))
    (s_one (s_ret (x_take 3 (pv 3))))))
theorem sc__law_left : FnScope ["_law_bag_here", "_law_some", "_law_step", "_law_start", "_law_found", "_law_k"] ["_law_bag_here", "_law_some"] (defScope (top 37)) := ⟨rfl, rfl, rfl, by decide +kernel, rfl, by decide +kernel, by decide +kernel⟩
def b__law_left_1 : MS :=
  (sDrop (mMth 4 fApp [(.ex (mFrz (mTup [(.ex (mCB fList [(.ex (mBin fIdx (.ex (mBin fIdx (.var 1) (.var 5))) (.ex (mC (.int 0)))))])), (.ex (mCB fList [(.ex (mBin fIdx (.ex (mBin fIdx (.var 1) (.var 5))) (.ex (mC (.int 1)))))]))])))]))
def b__law_left : MS :=
  (sSeq (sSet 2 (mBin fAdd (.ex (mC (.int 1))) (.ex (mCall m__law_digit [(.var 0), (.ex (mC (.int 9)))]))))
  (sSeq (sSet 3 (mCall m__law_digit [(.var 0), (.ex (mBin fAdd (.ex (mCB (f1 lenO) [(.var 1)])) (.ex (mC (.int 1)))))]))
  (sSeq (sSet 4 (mLst []))
  (sSeq (sFor (.nm 5) (srcS [(.var 3), (.ex (mCB (f1 lenO) [(.var 1)])), (.var 2)])
  b__law_left_1)
  (sSeq (sIf (asB (mBin fEq (.ex (mCall m__law_digit [(.var 0), (.ex (mC (.int 2)))])) (.ex (mC (.int 1)))))
  (sDrop (mMth 4 fRev []))
  sNil)
  (sRet (mTake 4)))))))
def m__law_left : List O → R O := runF 4 [true, true] b__law_left
theorem ok__law_left (T : Fx K mg) : Cal P w K mg base "_law_left" ["_law_bag_here", "_law_some"] 3 m__law_left :=
  cal_of (k := 2) T.s__law_left sc__law_left rfl (by decide) fun X c W cdv A outer s H E f hX hW hr tk po hp hp2 => by
  subst hX; subst hW
  exact (s_seq (s_set 2 sc__law_left.nd rfl (by first | exact .inl rfl | exact .inr rfl) (hp 2 rfl) (x_bin sv_add op_addQ x_int (x_call (ok__law_digit T) tk (hr.mono (by decide)) rfl rfl (xa_cons (pv 0) (xa_cons x_int xa_nil)))))
    (s_seq (s_set 3 sc__law_left.nd rfl (by first | exact .inl rfl | exact .inr rfl) (hp 3 rfl) (x_call (ok__law_digit T) tk (hr.mono (by decide)) rfl rfl (xa_cons (pv 0) (xa_cons (x_bin sv_add op_addQ (x_cb sv_len call_len rfl T.z_len bt_len (xa_cons (pv 1) xa_nil)) x_int) xa_nil))))
    (s_seq (s_set 4 sc__law_left.nd rfl (by first | exact .inl rfl | exact .inr rfl) (hp 4 rfl) (x_lst xa_nil))
    (s_seq (s_for po rfl (i_r3S rfl T.z_range (xa_cons (pv 3) (xa_cons (x_cb sv_len call_len rfl T.z_len bt_len (xa_cons (pv 1) xa_nil)) (xa_cons (pv 2) xa_nil)))) (g_nm 5 sc__law_left.nd rfl (by first | exact .inl rfl | exact .inr rfl)) (hp 5 rfl)
    (s_one (s_drop (x_app 4 (pv 4) (xa_cons (x_frz (x_tup (xa_cons (x_cty sv_list call_list_of rfl T.z_list bt_list (xa_cons (x_idx (x_idx (pv 1) (pv 5)) x_int) xa_nil)) (xa_cons (x_cty sv_list call_list_of rfl T.z_list bt_list (xa_cons (x_idx (x_idx (pv 1) (pv 5)) x_int) xa_nil)) xa_nil)))) xa_nil)))))
    (s_seq (s_if (t_cmp sv_eq (op_eqP hr.units) (x_call (ok__law_digit T) tk (hr.mono (by decide)) rfl rfl (xa_cons (pv 0) (xa_cons x_int xa_nil))) x_int (nomark _))
    (s_one (s_drop (x_rev 4 (pv 4))))
    s_nil)
    (s_one (s_ret (x_take 4 (pv 4)))))))))
theorem sc__law_odd_row : FnScope ["_law_bag_here", "_law_row", "_law_d", "_law_far", "_law_odd", "_law_at"] ["_law_bag_here", "_law_row", "_law_d"] (defScope (top 38)) := ⟨rfl, rfl, rfl, by decide +kernel, rfl, by decide +kernel, by decide +kernel⟩
def b__law_odd_row : MS :=
  (sSeq (sSet 3 (mBin fAdd (.ex (mC (.int 61))) (.ex (mCall m__law_digit [(.var 0), (.ex (mBin (fI iPow) (.ex (mC (.int 10))) (.ex (mC (.int 20)))))]))))
  (sSeq (sSet 4 (mLst [(.ex (mTup [(.ex (mC (.int 1))), (.ex (mBin fAdd (.var 2) (.ex (mC (.int 1))))), (.ex (mC (.int 1)))])), (.ex (mTup [(.ex (mC (.int 2))), (.ex (mC (.int 1))), (.ex (mC (.int 1)))])), (.ex (mTup [(.ex (mC (.int 1))), (.ex (mC (.int 1))), (.ex (mC (.int 1)))])), (.ex (mTup [(.ex (mC (.int 1))), (.ex (mC (.int 2))), (.ex (mC (.int 0)))])), (.ex (mTup [(.ex (mC (.int 1))), (.ex (mC (.int 2))), (.ex (mBin (fI iSub) (.ex (mC (.int 0))) (.var 3)))])), (.ex (mTup [(.ex (mC (.int 0))), (.ex (mC (.int 1))), (.ex (mC (.int 1)))])), (.ex (mTup [(.ex (mVar 3)), (.ex (mVar 3)), (.ex (mC (.int 0)))])), (.ex (mTup [(.ex (mC (.int 1))), (.ex (mC (.int 2))), (.ex (mVar 3))]))]))
  (sSeq (sSet 5 (mCall m__law_digit [(.var 0), (.ex (mBin fAdd (.ex (mCB (f1 lenO) [(.var 1)])) (.ex (mC (.int 1)))))]))
  (sRet (mBin fAdd (.ex (mBin fAdd (.ex (mSl (.var 1) none (some (.var 5)))) (.ex (mLst [(.ex (mBin fIdx (.var 4) (.ex (mCall m__law_digit [(.var 0), (.ex (mC (.int 8)))]))))])))) (.ex (mSl (.var 1) (some (.ex (mBin fAdd (.var 5) (.ex (mCall m__law_digit [(.var 0), (.ex (mC (.int 2)))]))))) none)))))))
def m__law_odd_row : List O → R O := runF 3 [true, true, true] b__law_odd_row
theorem ok__law_odd_row (T : Fx K mg) : Cal P w K mg base "_law_odd_row" ["_law_bag_here", "_law_row", "_law_d"] 3 m__law_odd_row :=
  cal_of (k := 2) T.s__law_odd_row sc__law_odd_row rfl (by decide) fun X c W cdv A outer s H E f hX hW hr tk po hp hp2 => by
  subst hX; subst hW
  exact (s_seq (s_set 3 sc__law_odd_row.nd rfl (by first | exact .inl rfl | exact .inr rfl) (hp 3 rfl) (x_bin sv_add op_addQ x_int (x_call (ok__law_digit T) tk (hr.mono (by decide)) rfl rfl (xa_cons (pv 0) (xa_cons (x_bin sv_pow op_pow x_int x_int) xa_nil)))))
    (s_seq (s_set 4 sc__law_odd_row.nd rfl (by first | exact .inl rfl | exact .inr rfl) (hp 4 rfl) (x_lst (xa_cons (x_tup (xa_cons x_int (xa_cons (x_bin sv_add op_addQ (pv 2) x_int) (xa_cons x_int xa_nil)))) (xa_cons (x_tup (xa_cons x_int (xa_cons x_int (xa_cons x_int xa_nil)))) (xa_cons (x_tup (xa_cons x_int (xa_cons x_int (xa_cons x_int xa_nil)))) (xa_cons (x_tup (xa_cons x_int (xa_cons x_int (xa_cons x_int xa_nil)))) (xa_cons (x_tup (xa_cons x_int (xa_cons x_int (xa_cons (x_bin sv_sub op_sub x_int (pv 3)) xa_nil)))) (xa_cons (x_tup (xa_cons x_int (xa_cons x_int (xa_cons x_int xa_nil)))) (xa_cons (x_tup (xa_cons (x_var 3 (pv 3)) (xa_cons (x_var 3 (pv 3)) (xa_cons x_int xa_nil)))) (xa_cons (x_tup (xa_cons x_int (xa_cons x_int (xa_cons (x_var 3 (pv 3)) xa_nil)))) xa_nil))))))))))
    (s_seq (s_set 5 sc__law_odd_row.nd rfl (by first | exact .inl rfl | exact .inr rfl) (hp 5 rfl) (x_call (ok__law_digit T) tk (hr.mono (by decide)) rfl rfl (xa_cons (pv 0) (xa_cons (x_bin sv_add op_addQ (x_cb sv_len call_len rfl T.z_len bt_len (xa_cons (pv 1) xa_nil)) x_int) xa_nil))))
    (s_one (s_ret (x_bin sv_add op_addQ (x_bin sv_add op_addQ (x_sl (pv 1) b_no (b_some (pv 5))) (x_lst (xa_cons (x_idx (pv 4) (x_call (ok__law_digit T) tk (hr.mono (by decide)) rfl rfl (xa_cons (pv 0) (xa_cons x_int xa_nil)))) xa_nil))) (x_sl (pv 1) (b_some (x_bin sv_add op_addQ (pv 5) (x_call (ok__law_digit T) tk (hr.mono (by decide)) rfl rfl (xa_cons (pv 0) (xa_cons x_int xa_nil))))) b_no)))))))
theorem sc__law_spoilt : FnScope ["_law_bag_here", "_law_some", "_law_d", "_law_found", "_law_at", "_law_drawing", "_law_marking", "_law_way", "_law_spot", "_law_other", "_law_mark", "_law_one"] ["_law_bag_here", "_law_some", "_law_d"] (defScope (top 39)) := ⟨rfl, rfl, rfl, by decide +kernel, rfl, by decide +kernel, by decide +kernel⟩
def b__law_spoilt : MS :=
  (sSeq (sSet 3 (mLc (.nm 11) [11] (srcA (.ex (mVar 1))) bYes (mTup [(.ex (mCB fList [(.ex (mBin fIdx (.var 11) (.ex (mC (.int 0)))))])), (.ex (mCB fList [(.ex (mBin fIdx (.var 11) (.ex (mC (.int 1)))))]))])))
  (sSeq (sIf (asB (mBin fEq (.var 3) (.ex (mLst []))))
  (sRet (mLst [(.ex (mFrz (mTup [(.ex (mLst [])), (.ex (mLst []))])))]))
  sNil)
  (sSeq (sSet 4 (mCall m__law_digit [(.var 0), (.ex (mCB (f1 lenO) [(.var 3)]))]))
  (sOpen 3 4 5 6
  (bStep (sSet 7 (mCall m__law_digit [(.var 0), (.ex (mC (.int 7)))]))
  (bStep (sSet 8 (mCall m__law_digit [(.var 0), (.ex (mCB (f1 lenO) [(.var 6)]))]))
  (bStep (sSet 9 (mCall m__law_digit [(.var 0), (.ex (mCB (f1 lenO) [(.var 6)]))]))
  (bEnd (bIf (asB (mBin fEq (.var 7) (.ex (mC (.int 0)))))
  (bApp 3 5 6 (mTup [(.ex (mCB fList [(.var 5)])), (.ex (mCB fList [(.var 6)]))]))
  (bIf (asB (mBin fEq (.var 7) (.ex (mC (.int 1)))))
  (bStep (sSet 10 (mBin fIdx (.var 6) (.var 8)))
  (bStep (sSetIx 6 (.var 8) (mBin fIdx (.var 6) (.var 9)))
  (bStep (sSetIx 6 (.var 9) (mVar 10))
  (bBack 3 5 6))))
  (bIf (asB (mBin fEq (.var 7) (.ex (mC (.int 2)))))
  (bStep (sDrop (mMth 6 fRem [(.ex (mBin fIdx (.var 6) (.var 8)))]))
  (bBack 3 5 6))
  (bIf (asB (mBin fEq (.var 7) (.ex (mC (.int 3)))))
  (bStep (sDrop (mMth 6 fIns [(.ex (mVar 9)), (.ex (mBin fIdx (.var 6) (.var 8)))]))
  (bBack 3 5 6))
  (bIf (asB (mBin fEq (.var 7) (.ex (mC (.int 4)))))
  (bPut 3 4 (mTup [(.ex (mCall m__law_odd_row [(.var 0), (.var 5), (.var 2)])), (.ex (mTake 6))]))
  (bIf (asB (mBin fEq (.var 7) (.ex (mC (.int 5)))))
  (bPut 3 4 (mTup [(.ex (mCB revO [(.var 5)])), (.ex (mTake 6))]))
  (bPut 3 4 (mTup [(.ex (mTake 5)), (.ex (mCall m__law_odd_row [(.var 0), (.var 6), (.var 2)]))]))))))))
  (sRet (mTake 3))))))))))
def m__law_spoilt : List O → R O := runF 9 [true, true, true] b__law_spoilt
theorem ok__law_spoilt (T : Fx K mg) : Cal P w K mg base "_law_spoilt" ["_law_bag_here", "_law_some", "_law_d"] 4 m__law_spoilt :=
  cal_of (k := 3) T.s__law_spoilt sc__law_spoilt rfl (by decide) fun X c W cdv A outer s H E f hX hW hr tk po hp hp2 => by
  subst hX; subst hW
  exact (s_seq (s_setLcN 3 (own := [("_law_one", 11)]) rfl rfl sc__law_spoilt.nd rfl rfl (hp 3 rfl) (sw_true rfl rfl rfl (by decide +kernel)) (i_seq (x_var 1 (pv 1))) (blkOk_by (N := ["_law_bag_here", "_law_some", "_law_d", "_law_found", "_law_at", "_law_drawing", "_law_marking", "_law_way", "_law_spot", "_law_other", "_law_mark", "_law_one"]) (sc := defScope (top 39)) (by decide +kernel)) (fun _ _ _ _ _ => (g_nm 11 sc__law_spoilt.nd rfl (by first | exact .inl rfl | exact .inr rfl))) (fun _ _ _ _ _ => ts_nil) (fun _ _ _ _ _ => (x_tup (xa_cons (x_cty sv_list call_list_of rfl T.z_list bt_list (xa_cons (x_idx (pv 11) x_int) xa_nil)) (xa_cons (x_cty sv_list call_list_of rfl T.z_list bt_list (xa_cons (x_idx (pv 11) x_int) xa_nil)) xa_nil)))) (by intro i hi; simp only [List.mem_cons, List.not_mem_nil, or_false] at hi; subst hi <;> exact hp _ rfl) (by decide) (hp 11 rfl))
    (s_seq (s_if (t_cmp sv_eq (op_eqP hr.units) (pv 3) (x_lst xa_nil) (nomark _))
    (s_one (s_ret (x_lst (xa_cons (x_frz (x_tup (xa_cons (x_lst xa_nil) (xa_cons (x_lst xa_nil) xa_nil)))) xa_nil))))
    s_nil)
    (s_seq (s_set 4 sc__law_spoilt.nd rfl (by first | exact .inl rfl | exact .inr rfl) (hp 4 rfl) (x_call (ok__law_digit T) tk (hr.mono (by decide)) rfl rfl (xa_cons (pv 0) (xa_cons (x_cb sv_len call_len rfl T.z_len bt_len (xa_cons (pv 3) xa_nil)) xa_nil))))
    (s_open (g_tp rfl (pgs_all_cons (i := 5) sc__law_spoilt.nd rfl (by first | exact .inl rfl | exact .inr rfl) (pgs_all_cons (i := 6) sc__law_spoilt.nd rfl (by first | exact .inl rfl | exact .inr rfl) pgs_all_nil))) (pe_ix ix_seq (pv 3) (pv 4) (by intro _ _; rfl)) (b_step (fun c' hc => (s_set 7 sc__law_spoilt.nd rfl (by first | exact .inl rfl | exact .inr rfl) ((hc _ (by decide) (by decide) (by decide)).trans (hp 7 rfl)) (x_call (ok__law_digit T) tk (hr.mono (by decide)) rfl rfl (xa_cons (pv 0) (xa_cons x_int xa_nil))))) (hp 3 rfl) (hp 5 rfl) (hp 6 rfl) (by decide) (by decide) (by decide)
    (b_step (fun c' hc => (s_set 8 sc__law_spoilt.nd rfl (by first | exact .inl rfl | exact .inr rfl) ((hc _ (by decide) (by decide) (by decide)).trans (hp 8 rfl)) (x_call (ok__law_digit T) tk (hr.mono (by decide)) rfl rfl (xa_cons (pv 0) (xa_cons (x_cb sv_len call_len rfl T.z_len bt_len (xa_cons (pv 6) xa_nil)) xa_nil))))) (hp 3 rfl) (hp 5 rfl) (hp 6 rfl) (by decide) (by decide) (by decide)
    (b_step (fun c' hc => (s_set 9 sc__law_spoilt.nd rfl (by first | exact .inl rfl | exact .inr rfl) ((hc _ (by decide) (by decide) (by decide)).trans (hp 9 rfl)) (x_call (ok__law_digit T) tk (hr.mono (by decide)) rfl rfl (xa_cons (pv 0) (xa_cons (x_cb sv_len call_len rfl T.z_len bt_len (xa_cons (pv 6) xa_nil)) xa_nil))))) (hp 3 rfl) (hp 5 rfl) (hp 6 rfl) (by decide) (by decide) (by decide)
    (b_end (b_if (t_cmp sv_eq (op_eqP hr.units) (pv 7) x_int (nomark _))
    (b_one (b_app (by decide) (pv 3) (x_tup (xa_cons (x_cty sv_list call_list_of rfl T.z_list bt_list (xa_cons (pv 5) xa_nil)) (xa_cons (x_cty sv_list call_list_of rfl T.z_list bt_list (xa_cons (pv 6) xa_nil)) xa_nil)))))
    (b_one (b_if (t_cmp sv_eq (op_eqP hr.units) (pv 7) x_int (nomark _))
    (b_step (fun c' hc => (s_set 10 sc__law_spoilt.nd rfl (by first | exact .inl rfl | exact .inr rfl) ((hc _ (by decide) (by decide) (by decide)).trans (hp 10 rfl)) (x_idx (pv 6) (pv 8)))) (hp 3 rfl) (hp 5 rfl) (hp 6 rfl) (by decide) (by decide) (by decide)
    (b_step (fun c' hc => (s_setIx 6 (pv 6) (pv 8) (x_idx (pv 6) (pv 9)))) (hp 3 rfl) (hp 5 rfl) (hp 6 rfl) (by decide) (by decide) (by decide)
    (b_step (fun c' hc => (s_setIx 6 (pv 6) (pv 9) (x_var 10 (pv 10)))) (hp 3 rfl) (hp 5 rfl) (hp 6 rfl) (by decide) (by decide) (by decide)
    (b_back (by decide)))))
    (b_one (b_if (t_cmp sv_eq (op_eqP hr.units) (pv 7) x_int (nomark _))
    (b_step (fun c' hc => (s_drop (x_rem 6 (u65 hr) (pv 6) (xa_cons (x_idx (pv 6) (pv 8)) xa_nil)))) (hp 3 rfl) (hp 5 rfl) (hp 6 rfl) (by decide) (by decide) (by decide)
    (b_back (by decide)))
    (b_one (b_if (t_cmp sv_eq (op_eqP hr.units) (pv 7) x_int (nomark _))
    (b_step (fun c' hc => (s_drop (x_ins 6 (pv 6) (xa_cons (x_var 9 (pv 9)) (xa_cons (x_idx (pv 6) (pv 8)) xa_nil))))) (hp 3 rfl) (hp 5 rfl) (hp 6 rfl) (by decide) (by decide) (by decide)
    (b_back (by decide)))
    (b_one (b_if (t_cmp sv_eq (op_eqP hr.units) (pv 7) x_int (nomark _))
    (b_one (b_put (i := 4) (pv 3) (pv 4) (x_tup (xa_cons (x_call (ok__law_odd_row T) tk (hr.mono (by decide)) rfl rfl (xa_cons (pv 0) (xa_cons (pv 5) (xa_cons (pv 2) xa_nil)))) (xa_cons (x_take 6 (pv 6)) xa_nil)))))
    (b_one (b_if (t_cmp sv_eq (op_eqP hr.units) (pv 7) x_int (nomark _))
    (b_one (b_put (i := 4) (pv 3) (pv 4) (x_tup (xa_cons (x_revS (pv 5)) (xa_cons (x_take 6 (pv 6)) xa_nil)))))
    (b_one (b_put (i := 4) (pv 3) (pv 4) (x_tup (xa_cons (x_take 5 (pv 5)) (xa_cons (x_call (ok__law_odd_row T) tk (hr.mono (by decide)) rfl rfl (xa_cons (pv 0) (xa_cons (pv 6) (xa_cons (pv 2) xa_nil)))) xa_nil))))))))))))))))
    (s_one (s_ret (x_take 3 (pv 3)))))))) (by decide) (by decide) (by decide) (hp 5 rfl) (hp 6 rfl)))))
theorem sc__law_asked : FnScope ["_law_d", "_law_k", "_law_some", "_law_handed", "_law_found", "_law_due_here", "_law_one"] ["_law_d", "_law_k", "_law_some"] (defScope (top 40)) := ⟨rfl, rfl, rfl, by decide +kernel, rfl, by decide +kernel, by decide +kernel⟩
def b__law_asked : MS :=
  (sSeq (sSet 3 (mFrz (mLc (.nm 6) [6] (srcA (.ex (mVar 2))) bYes (mTup [(.ex (mCB fList [(.ex (mBin fIdx (.var 6) (.ex (mC (.int 0)))))])), (.ex (mCB fList [(.ex (mBin fIdx (.var 6) (.ex (mC (.int 1)))))]))]))))
  (sSeq (sSet 4 (mCall m_weighed [(.var 0), (.var 1), (.var 3)]))
  (sSeq (sIf (bOr (asB (mBin fNe (.var 3) (.var 2))) (mTru (.ex (mUn (fIsi .bl) (.var 4)))))
  (sRet (mC (.bool false)))
  sNil)
  (sSeq (sSet 5 (mCall m__law_due [(.var 2), (.var 0), (.var 1)]))
  (sRet (vOr (vAnd (mBin fIsN (.var 4) (.ex (mC .none))) (mBin fIsN (.var 5) (.ex (mC .none)))) (vAnd (mUn (fIsi .int) (.var 4)) (mBin fEq (.var 4) (.var 5)))))))))
def m__law_asked : List O → R O := runF 4 [true, true, true] b__law_asked
theorem ok__law_asked (T : Fx K mg) : Cal P w K mg base "_law_asked" ["_law_d", "_law_k", "_law_some"] 7 m__law_asked :=
  cal_of (k := 6) T.s__law_asked sc__law_asked rfl (by decide) fun X c W cdv A outer s H E f hX hW hr tk po hp hp2 => by
  subst hX; subst hW
  exact (s_seq (s_setLcZ 3 (own := [("_law_one", 6)]) rfl rfl sc__law_asked.nd rfl rfl (hp 3 rfl) (sw_true rfl rfl rfl (by decide +kernel)) (i_seq (x_var 2 (pv 2))) (blkOk_by (N := ["_law_d", "_law_k", "_law_some", "_law_handed", "_law_found", "_law_due_here", "_law_one"]) (sc := defScope (top 40)) (by decide +kernel)) (fun _ _ _ _ _ => (g_nm 6 sc__law_asked.nd rfl (by first | exact .inl rfl | exact .inr rfl))) (fun _ _ _ _ _ => ts_nil) (fun _ _ _ _ _ => (x_tup (xa_cons (x_cty sv_list call_list_of rfl T.z_list bt_list (xa_cons (x_idx (pv 6) x_int) xa_nil)) (xa_cons (x_cty sv_list call_list_of rfl T.z_list bt_list (xa_cons (x_idx (pv 6) x_int) xa_nil)) xa_nil)))) (by intro i hi; simp only [List.mem_cons, List.not_mem_nil, or_false] at hi; subst hi <;> exact hp _ rfl) (by decide) (hp 6 rfl))
    (s_seq (s_set 4 sc__law_asked.nd rfl (by first | exact .inl rfl | exact .inr rfl) (hp 4 rfl) (x_call (ok_weighed T) tk (hr.mono (by decide)) rfl rfl (xa_cons (pv 0) (xa_cons (pv 1) (xa_cons (pv 3) xa_nil)))))
    (s_seq (s_if (t_w (w_or (t_cmp sv_ne (op_neP hr.units) (pv 3) (pv 2) (nomark _)) (w_or1 (t_tru (x_isi .bl nofun (pv 4) rfl T.z_isinstance rfl T.z_bool bt_bool)))))
    (s_one (s_ret x_bl))
    s_nil)
    (s_seq (s_set 5 sc__law_asked.nd rfl (by first | exact .inl rfl | exact .inr rfl) (hp 5 rfl) (x_call (ok__law_due T) tk (hr.mono (by decide)) rfl rfl (xa_cons (pv 2) (xa_cons (pv 0) (xa_cons (pv 1) xa_nil)))))
    (s_one (s_ret (x_or (x_and (x_cmp sv_isN op_isN (pv 4) x_non (nomark _)) (x_one (x_cmp sv_isN op_isN (pv 5) x_non (nomark _)))) (x_one (x_and (x_isi .int nofun (pv 4) rfl T.z_isinstance rfl T.z_int bt_int) (x_one (x_cmp sv_eq (op_eqP hr.units) (pv 4) (pv 5) (nomark _))))))))))))
theorem sc_law : FnScope ["_law_script", "_law_bag_here", "_law_d", "_law_k", "_law_full", "_law_some", "_law_turn", "_law_spoilt_here"] ["_law_script"] (defScope (top 41)) := ⟨rfl, rfl, rfl, by decide +kernel, rfl, by decide +kernel, by decide +kernel⟩
def b_law_1 : MS :=
  (sSeq (sSet 7 (mCall m__law_spoilt [(.ex (mCall m__law_bag [(.ex (mCall m__law_cell_at [(.var 0), (.ex (mBin fAdd (.ex (mC (.int 1))) (.var 6)))])), (.ex (mBin fAdd (.ex (mC (.int 2))) (.var 6)))])), (.var 5), (.var 2)]))
  (sIf (bNot (mTru (.ex (mCall m__law_asked [(.var 2), (.var 3), (.var 7)]))))
  (sRet (mC (.bool false)))
  sNil))
def b_law : MS :=
  (sSeq (sSet 1 (mCall m__law_bag [(.ex (mCall m__law_cell_at [(.var 0), (.ex (mC (.int 0)))])), (.ex (mC (.int 1)))]))
  (sSeq (sSet 2 (mBin fAdd (.ex (mC (.int 1))) (.ex (mCall m__law_digit [(.var 1), (.ex (mC (.int 5)))]))))
  (sSeq (sSet 3 (mCall m__law_digit [(.var 1), (.ex (mBin fIdx (.ex (mLst [(.ex (mC (.int 7))), (.ex (mC (.int 2)))])) (.ex (mBin (fI iDiv) (.var 2) (.ex (mC (.int 5)))))))]))
  (sSeq (sSet 4 (mFrz (mCall m_paper [(.var 2), (.var 3)])))
  (sSeq (sSet 5 (mSl (.ex (mCall m__law_left [(.var 1), (.var 4)])) none (some (.ex (mC (.int 40))))))
  (sSeq (sIf (bNot (mTru (.ex (mCall m__law_asked [(.var 2), (.var 3), (.var 5)]))))
  (sRet (mC (.bool false)))
  sNil)
  (sSeq (sFor (.nm 6) (srcR [(.ex (mC (.int 3)))])
  b_law_1)
  (sRet (vAnd (mCall m__law_asked [(.var 2), (.var 3), (.var 5)]) (mBin fEq (.ex (mCall m_weighed [(.var 2), (.var 3), (.ex (mLst []))])) (.ex (mC (.int 0)))))))))))))
def m_law : List O → R O := runF 7 [true] b_law
theorem ok_law (T : Fx K mg) : Cal P w K mg base "law" ["_law_script"] 8 m_law :=
  cal_of (k := 7) T.s_law sc_law rfl (by decide) fun X c W cdv A outer s H E f hX hW hr tk po hp hp2 => by
  subst hX; subst hW
  exact (s_seq (s_set 1 sc_law.nd rfl (by first | exact .inl rfl | exact .inr rfl) (hp 1 rfl) (x_call (ok__law_bag T) tk (hr.mono (by decide)) rfl rfl (xa_cons (x_call (ok__law_cell_at T) tk (hr.mono (by decide)) rfl rfl (xa_cons (pv 0) (xa_cons x_int xa_nil))) (xa_cons x_int xa_nil))))
    (s_seq (s_set 2 sc_law.nd rfl (by first | exact .inl rfl | exact .inr rfl) (hp 2 rfl) (x_bin sv_add op_addQ x_int (x_call (ok__law_digit T) tk (hr.mono (by decide)) rfl rfl (xa_cons (pv 1) (xa_cons x_int xa_nil)))))
    (s_seq (s_set 3 sc_law.nd rfl (by first | exact .inl rfl | exact .inr rfl) (hp 3 rfl) (x_call (ok__law_digit T) tk (hr.mono (by decide)) rfl rfl (xa_cons (pv 1) (xa_cons (x_idx (x_lst (xa_cons x_int (xa_cons x_int xa_nil))) (x_bin sv_div op_fdivQ (pv 2) x_int)) xa_nil))))
    (s_seq (s_set 4 sc_law.nd rfl (by first | exact .inl rfl | exact .inr rfl) (hp 4 rfl) (x_frz (x_call (ok_paper T) tk (hr.mono (by decide)) rfl rfl (xa_cons (pv 2) (xa_cons (pv 3) xa_nil)))))
    (s_seq (s_set 5 sc_law.nd rfl (by first | exact .inl rfl | exact .inr rfl) (hp 5 rfl) (x_sl (x_call (ok__law_left T) tk (hr.mono (by decide)) rfl rfl (xa_cons (pv 1) (xa_cons (pv 4) xa_nil))) b_no (b_some x_int)))
    (s_seq (s_if (t_not (t_tru (x_call (ok__law_asked T) tk (hr.mono (by decide)) rfl rfl (xa_cons (pv 2) (xa_cons (pv 3) (xa_cons (pv 5) xa_nil))))))
    (s_one (s_ret x_bl))
    s_nil)
    (s_seq (s_for po rfl (i_r1 rfl T.z_range (xa_cons x_int xa_nil)) (g_nm 6 sc_law.nd rfl (by first | exact .inl rfl | exact .inr rfl)) (hp 6 rfl)
    (s_seq (s_set 7 sc_law.nd rfl (by first | exact .inl rfl | exact .inr rfl) (hp 7 rfl) (x_call (ok__law_spoilt T) tk (hr.mono (by decide)) rfl rfl (xa_cons (x_call (ok__law_bag T) tk (hr.mono (by decide)) rfl rfl (xa_cons (x_call (ok__law_cell_at T) tk (hr.mono (by decide)) rfl rfl (xa_cons (pv 0) (xa_cons (x_bin sv_add op_addQ x_int (pv 6)) xa_nil))) (xa_cons (x_bin sv_add op_addQ x_int (pv 6)) xa_nil))) (xa_cons (pv 5) (xa_cons (pv 2) xa_nil)))))
    (s_one (s_if (t_not (t_tru (x_call (ok__law_asked T) tk (hr.mono (by decide)) rfl rfl (xa_cons (pv 2) (xa_cons (pv 3) (xa_cons (pv 7) xa_nil))))))
    (s_one (s_ret x_bl))
    s_nil))))
    (s_one (s_ret (x_and (x_call (ok__law_asked T) tk (hr.mono (by decide)) rfl rfl (xa_cons (pv 2) (xa_cons (pv 3) (xa_cons (pv 5) xa_nil)))) (x_one (x_cmp sv_eq (op_eqP hr.units) (x_call (ok_weighed T) tk (hr.mono (by decide)) rfl rfl (xa_cons (pv 2) (xa_cons (pv 3) (xa_cons (x_lst xa_nil) xa_nil)))) x_int (nomark _)))))))))))))
end
def d_is_whole : He.DefD := ⟨("is_whole", none), "is_whole", "is_whole", defArgs (top 5), defBody (top 5), defScope (top 5), [], []⟩
def d_asked_degree : He.DefD := ⟨("asked_degree", none), "asked_degree", "asked_degree", defArgs (top 6), defBody (top 6), defScope (top 6), [], []⟩
def d_asked_crossings : He.DefD := ⟨("asked_crossings", none), "asked_crossings", "asked_crossings", defArgs (top 7), defBody (top 7), defScope (top 7), [], []⟩
def d_asked_wide : He.DefD := ⟨("asked_wide", none), "asked_wide", "asked_wide", defArgs (top 8), defBody (top 8), defScope (top 8), [], []⟩
def d_ends_at : He.DefD := ⟨("ends_at", none), "ends_at", "ends_at", defArgs (top 10), defBody (top 10), defScope (top 10), [], []⟩
def d_sound : He.DefD := ⟨("sound", none), "sound", "sound", defArgs (top 11), defBody (top 11), defScope (top 11), [], []⟩
def d_lifts_from : He.DefD := ⟨("lifts_from", none), "lifts_from", "lifts_from", defArgs (top 12), defBody (top 12), defScope (top 12), [], []⟩
def d_weighing : He.DefD := ⟨("weighing", none), "weighing", "weighing", defArgs (top 13), defBody (top 13), defScope (top 13), [], []⟩
def d_rows_from : He.DefD := ⟨("rows_from", none), "rows_from", "rows_from", defArgs (top 14), defBody (top 14), defScope (top 14), [], []⟩
def d_all_sound : He.DefD := ⟨("all_sound", none), "all_sound", "all_sound", defArgs (top 15), defBody (top 15), defScope (top 15), [], []⟩
def d_drawings : He.DefD := ⟨("drawings", none), "drawings", "drawings", defArgs (top 16), defBody (top 16), defScope (top 16), [], []⟩
def d_worth : He.DefD := ⟨("worth", none), "worth", "worth", defArgs (top 17), defBody (top 17), defScope (top 17), [], []⟩
def d_asked_sound : He.DefD := ⟨("asked_sound", none), "asked_sound", "asked_sound", defArgs (top 19), defBody (top 19), defScope (top 19), [], []⟩
def d_marks_between : He.DefD := ⟨("marks_between", none), "marks_between", "marks_between", defArgs (top 20), defBody (top 20), defScope (top 20), [], []⟩
def d_without_one : He.DefD := ⟨("without_one", none), "without_one", "without_one", defArgs (top 21), defBody (top 21), defScope (top 21), [], []⟩
def d_next_marks : He.DefD := ⟨("next_marks", none), "next_marks", "next_marks", defArgs (top 22), defBody (top 22), defScope (top 22), [], []⟩
def d_markings : He.DefD := ⟨("markings", none), "markings", "markings", defArgs (top 23), defBody (top 23), defScope (top 23), [], []⟩
def d_paper : He.DefD := ⟨("paper", none), "paper", "paper", defArgs (top 25), defBody (top 25), defScope (top 25), [], []⟩
def d_is_drawing : He.DefD := ⟨("is_drawing", none), "is_drawing", "is_drawing", defArgs (top 26), defBody (top 26), defScope (top 26), [], []⟩
def d_is_marking : He.DefD := ⟨("is_marking", none), "is_marking", "is_marking", defArgs (top 27), defBody (top 27), defScope (top 27), [], []⟩
def d_weighed : He.DefD := ⟨("weighed", none), "weighed", "weighed", defArgs (top 28), defBody (top 28), defScope (top 28), [], []⟩
def d__law_cell_at : He.DefD := ⟨("_law_cell_at", none), "_law_cell_at", "_law_cell_at", defArgs (top 30), defBody (top 30), defScope (top 30), [], []⟩
def d__law_bag : He.DefD := ⟨("_law_bag", none), "_law_bag", "_law_bag", defArgs (top 31), defBody (top 31), defScope (top 31), [], []⟩
def d__law_mixed : He.DefD := ⟨("_law_mixed", none), "_law_mixed", "_law_mixed", defArgs (top 32), defBody (top 32), defScope (top 32), [], []⟩
def d__law_digit : He.DefD := ⟨("_law_digit", none), "_law_digit", "_law_digit", defArgs (top 33), defBody (top 33), defScope (top 33), [], []⟩
def d__law_marks : He.DefD := ⟨("_law_marks", none), "_law_marks", "_law_marks", defArgs (top 34), defBody (top 34), defScope (top 34), [], []⟩
def d__law_is_right : He.DefD := ⟨("_law_is_right", none), "_law_is_right", "_law_is_right", defArgs (top 35), defBody (top 35), defScope (top 35), [], []⟩
def d__law_due : He.DefD := ⟨("_law_due", none), "_law_due", "_law_due", defArgs (top 36), defBody (top 36), defScope (top 36), [], []⟩
def d__law_left : He.DefD := ⟨("_law_left", none), "_law_left", "_law_left", defArgs (top 37), defBody (top 37), defScope (top 37), [], []⟩
def d__law_odd_row : He.DefD := ⟨("_law_odd_row", none), "_law_odd_row", "_law_odd_row", defArgs (top 38), defBody (top 38), defScope (top 38), [], []⟩
def d__law_spoilt : He.DefD := ⟨("_law_spoilt", none), "_law_spoilt", "_law_spoilt", defArgs (top 39), defBody (top 39), defScope (top 39), [], []⟩
def d__law_asked : He.DefD := ⟨("_law_asked", none), "_law_asked", "_law_asked", defArgs (top 40), defBody (top 40), defScope (top 40), [], []⟩
def d_law : He.DefD := ⟨("law", none), "law", "law", defArgs (top 41), defBody (top 41), defScope (top 41), [], []⟩
def fn : List He.DefD := [d_is_whole, d_asked_degree, d_asked_crossings, d_asked_wide, d_ends_at, d_sound, d_lifts_from, d_weighing, d_rows_from, d_all_sound, d_drawings, d_worth, d_asked_sound, d_marks_between, d_without_one, d_next_marks, d_markings, d_paper, d_is_drawing, d_is_marking, d_weighed, d__law_cell_at, d__law_bag, d__law_mixed, d__law_digit, d__law_marks, d__law_is_right, d__law_due, d__law_left, d__law_odd_row, d__law_spoilt, d__law_asked, d_law]
def fa : List He.Fa := [.glo "is_whole", .glo "asked_degree", .glo "asked_crossings", .glo "asked_wide", .glo "ends_at", .glo "sound", .glo "lifts_from", .glo "weighing", .glo "rows_from", .glo "all_sound", .glo "drawings", .glo "worth", .glo "asked_sound", .glo "marks_between", .glo "without_one", .glo "next_marks", .glo "markings", .glo "paper", .glo "is_drawing", .glo "is_marking", .glo "weighed", .glo "_law_cell_at", .glo "_law_bag", .glo "_law_mixed", .glo "_law_digit", .glo "_law_marks", .glo "_law_is_right", .glo "_law_due", .glo "_law_left", .glo "_law_odd_row", .glo "_law_spoilt", .glo "_law_asked", .glo "law", .free "abs", .free "all", .free "bool", .free "enumerate", .free "int", .free "isinstance", .free "len", .free "list", .free "min", .free "range", .free "sorted", .free "sum", .free "tuple", .exc "NoBound", .glo "NoBound", .exc "NoDrawing", .glo "NoDrawing"]
abbrev R : PySem.W.OpenRow := PySem.W.OpenLaw.row PySem.Challenge.rw_floorcurves_k76_spoilt_papers
def ps : List (PySem.W.Frag → Bool) := []
abbrev hk : PySem.W.Hook := hookM 4 ps fa fn
def ob (s : PySem.W.SharedT) : He.AlD × Bool := obsM 4 ps fa fn (HandSHeadRun.getT s)
theorem ob_eq (s : PySem.W.SharedT) : ob s = hk.obs s.abs := obsM_eq (HandSHeadRun.getT_eq s)
theorem run (w : World) : HandSHeadRun.RunEq R (PySem.W.view R.prog [41]) hk ob 2000 [(Str.ofString "CurveError"), (Str.ofString "NoBound"), (Str.ofString "NoDrawing"), (Str.ofString "is_whole"), (Str.ofString "asked_degree"), (Str.ofString "asked_crossings"), (Str.ofString "asked_wide"), (Str.ofString "ends_at"), (Str.ofString "sound"), (Str.ofString "lifts_from"), (Str.ofString "weighing"), (Str.ofString "rows_from"), (Str.ofString "all_sound"), (Str.ofString "drawings"), (Str.ofString "worth"), (Str.ofString "asked_sound"), (Str.ofString "marks_between"), (Str.ofString "without_one"), (Str.ofString "next_marks"), (Str.ofString "markings"), (Str.ofString "paper"), (Str.ofString "is_drawing"), (Str.ofString "is_marking"), (Str.ofString "weighed"), (Str.ofString "_law_cell_at"), (Str.ofString "_law_bag"), (Str.ofString "_law_mixed"), (Str.ofString "_law_digit"), (Str.ofString "_law_marks"), (Str.ofString "_law_is_right"), (Str.ofString "_law_due"), (Str.ofString "_law_left"), (Str.ofString "_law_odd_row"), (Str.ofString "_law_spoilt"), (Str.ofString "_law_asked")] w := by
  intro os
  kernel_rfl
theorem facts {K : PySem.W.Frag} {h : Heap} {mg : Str → Option Value} (X : K.In h) (G : h.Ns mainGlobals mg) (c : He.SaysD fa fn K) (cp : (ps.all fun p => p K) = true) : Fx K mg where
  z_abs := He.free_ok X G (c.fact 33 (f := .free "abs") rfl)
  z_all := He.free_ok X G (c.fact 34 (f := .free "all") rfl)
  z_bool := He.free_ok X G (c.fact 35 (f := .free "bool") rfl)
  z_enumerate := He.free_ok X G (c.fact 36 (f := .free "enumerate") rfl)
  z_int := He.free_ok X G (c.fact 37 (f := .free "int") rfl)
  z_isinstance := He.free_ok X G (c.fact 38 (f := .free "isinstance") rfl)
  z_len := He.free_ok X G (c.fact 39 (f := .free "len") rfl)
  z_list := He.free_ok X G (c.fact 40 (f := .free "list") rfl)
  z_min := He.free_ok X G (c.fact 41 (f := .free "min") rfl)
  z_range := He.free_ok X G (c.fact 42 (f := .free "range") rfl)
  z_sorted := He.free_ok X G (c.fact 43 (f := .free "sorted") rfl)
  z_sum := He.free_ok X G (c.fact 44 (f := .free "sum") rfl)
  z_tuple := He.free_ok X G (c.fact 45 (f := .free "tuple") rfl)
  s_is_whole := by
    obtain ⟨fd, F⟩ := c.def_ 0 (d := d_is_whole) rfl
    exact ⟨⟨_, fd, He.glo_ok X G (c.fact 0 (f := .glo "is_whole") rfl), FunD.bindsN F fun _ _ _ _ _ _ us hl => match us, hl with | [_], _ => rfl, sta_fun F⟩⟩
  s_asked_degree := by
    obtain ⟨fd, F⟩ := c.def_ 1 (d := d_asked_degree) rfl
    exact ⟨⟨_, fd, He.glo_ok X G (c.fact 1 (f := .glo "asked_degree") rfl), FunD.bindsN F fun _ _ _ _ _ _ us hl => match us, hl with | [_, _], _ => rfl, sta_fun F⟩⟩
  s_asked_crossings := by
    obtain ⟨fd, F⟩ := c.def_ 2 (d := d_asked_crossings) rfl
    exact ⟨⟨_, fd, He.glo_ok X G (c.fact 2 (f := .glo "asked_crossings") rfl), FunD.bindsN F fun _ _ _ _ _ _ us hl => match us, hl with | [_, _], _ => rfl, sta_fun F⟩⟩
  s_asked_wide := by
    obtain ⟨fd, F⟩ := c.def_ 3 (d := d_asked_wide) rfl
    exact ⟨⟨_, fd, He.glo_ok X G (c.fact 3 (f := .glo "asked_wide") rfl), FunD.bindsN F fun _ _ _ _ _ _ us hl => match us, hl with | [_, _], _ => rfl, sta_fun F⟩⟩
  s_ends_at := by
    obtain ⟨fd, F⟩ := c.def_ 4 (d := d_ends_at) rfl
    exact ⟨⟨_, fd, He.glo_ok X G (c.fact 4 (f := .glo "ends_at") rfl), FunD.bindsN F fun _ _ _ _ _ _ us hl => match us, hl with | [_, _], _ => rfl, sta_fun F⟩⟩
  s_sound := by
    obtain ⟨fd, F⟩ := c.def_ 5 (d := d_sound) rfl
    exact ⟨⟨_, fd, He.glo_ok X G (c.fact 5 (f := .glo "sound") rfl), FunD.bindsN F fun _ _ _ _ _ _ us hl => match us, hl with | [_, _], _ => rfl, sta_fun F⟩⟩
  s_lifts_from := by
    obtain ⟨fd, F⟩ := c.def_ 6 (d := d_lifts_from) rfl
    exact ⟨⟨_, fd, He.glo_ok X G (c.fact 6 (f := .glo "lifts_from") rfl), FunD.bindsN F fun _ _ _ _ _ _ us hl => match us, hl with | [_, _, _], _ => rfl, sta_fun F⟩⟩
  s_weighing := by
    obtain ⟨fd, F⟩ := c.def_ 7 (d := d_weighing) rfl
    exact ⟨⟨_, fd, He.glo_ok X G (c.fact 7 (f := .glo "weighing") rfl), FunD.bindsN F fun _ _ _ _ _ _ us hl => match us, hl with | [_], _ => rfl, sta_fun F⟩⟩
  s_rows_from := by
    obtain ⟨fd, F⟩ := c.def_ 8 (d := d_rows_from) rfl
    exact ⟨⟨_, fd, He.glo_ok X G (c.fact 8 (f := .glo "rows_from") rfl), FunD.bindsN F fun _ _ _ _ _ _ us hl => match us, hl with | [_, _, _], _ => rfl, sta_fun F⟩⟩
  s_all_sound := by
    obtain ⟨fd, F⟩ := c.def_ 9 (d := d_all_sound) rfl
    exact ⟨⟨_, fd, He.glo_ok X G (c.fact 9 (f := .glo "all_sound") rfl), FunD.bindsN F fun _ _ _ _ _ _ us hl => match us, hl with | [_], _ => rfl, sta_fun F⟩⟩
  s_drawings := by
    obtain ⟨fd, F⟩ := c.def_ 10 (d := d_drawings) rfl
    exact ⟨⟨_, fd, He.glo_ok X G (c.fact 10 (f := .glo "drawings") rfl), FunD.bindsN F fun _ _ _ _ _ _ us hl => match us, hl with | [_, _], _ => rfl, sta_fun F⟩⟩
  s_worth := by
    obtain ⟨fd, F⟩ := c.def_ 11 (d := d_worth) rfl
    exact ⟨⟨_, fd, He.glo_ok X G (c.fact 11 (f := .glo "worth") rfl), FunD.bindsN F fun _ _ _ _ _ _ us hl => match us, hl with | [_], _ => rfl, sta_fun F⟩⟩
  s_asked_sound := by
    obtain ⟨fd, F⟩ := c.def_ 12 (d := d_asked_sound) rfl
    exact ⟨⟨_, fd, He.glo_ok X G (c.fact 12 (f := .glo "asked_sound") rfl), FunD.bindsN F fun _ _ _ _ _ _ us hl => match us, hl with | [_, _], _ => rfl, sta_fun F⟩⟩
  s_marks_between := by
    obtain ⟨fd, F⟩ := c.def_ 13 (d := d_marks_between) rfl
    exact ⟨⟨_, fd, He.glo_ok X G (c.fact 13 (f := .glo "marks_between") rfl), FunD.bindsN F fun _ _ _ _ _ _ us hl => match us, hl with | [_, _], _ => rfl, sta_fun F⟩⟩
  s_without_one := by
    obtain ⟨fd, F⟩ := c.def_ 14 (d := d_without_one) rfl
    exact ⟨⟨_, fd, He.glo_ok X G (c.fact 14 (f := .glo "without_one") rfl), FunD.bindsN F fun _ _ _ _ _ _ us hl => match us, hl with | [_, _], _ => rfl, sta_fun F⟩⟩
  s_next_marks := by
    obtain ⟨fd, F⟩ := c.def_ 15 (d := d_next_marks) rfl
    exact ⟨⟨_, fd, He.glo_ok X G (c.fact 15 (f := .glo "next_marks") rfl), FunD.bindsN F fun _ _ _ _ _ _ us hl => match us, hl with | [_, _, _], _ => rfl, sta_fun F⟩⟩
  s_markings := by
    obtain ⟨fd, F⟩ := c.def_ 16 (d := d_markings) rfl
    exact ⟨⟨_, fd, He.glo_ok X G (c.fact 16 (f := .glo "markings") rfl), FunD.bindsN F fun _ _ _ _ _ _ us hl => match us, hl with | [_, _], _ => rfl, sta_fun F⟩⟩
  s_paper := by
    obtain ⟨fd, F⟩ := c.def_ 17 (d := d_paper) rfl
    exact ⟨⟨_, fd, He.glo_ok X G (c.fact 17 (f := .glo "paper") rfl), FunD.bindsN F fun _ _ _ _ _ _ us hl => match us, hl with | [_, _], _ => rfl, sta_fun F⟩⟩
  s_is_drawing := by
    obtain ⟨fd, F⟩ := c.def_ 18 (d := d_is_drawing) rfl
    exact ⟨⟨_, fd, He.glo_ok X G (c.fact 18 (f := .glo "is_drawing") rfl), FunD.bindsN F fun _ _ _ _ _ _ us hl => match us, hl with | [_, _, _], _ => rfl, sta_fun F⟩⟩
  s_is_marking := by
    obtain ⟨fd, F⟩ := c.def_ 19 (d := d_is_marking) rfl
    exact ⟨⟨_, fd, He.glo_ok X G (c.fact 19 (f := .glo "is_marking") rfl), FunD.bindsN F fun _ _ _ _ _ _ us hl => match us, hl with | [_, _, _], _ => rfl, sta_fun F⟩⟩
  s_weighed := by
    obtain ⟨fd, F⟩ := c.def_ 20 (d := d_weighed) rfl
    exact ⟨⟨_, fd, He.glo_ok X G (c.fact 20 (f := .glo "weighed") rfl), FunD.bindsN F fun _ _ _ _ _ _ us hl => match us, hl with | [_, _, _], _ => rfl, sta_fun F⟩⟩
  s__law_cell_at := by
    obtain ⟨fd, F⟩ := c.def_ 21 (d := d__law_cell_at) rfl
    exact ⟨⟨_, fd, He.glo_ok X G (c.fact 21 (f := .glo "_law_cell_at") rfl), FunD.bindsN F fun _ _ _ _ _ _ us hl => match us, hl with | [_, _], _ => rfl, sta_fun F⟩⟩
  s__law_bag := by
    obtain ⟨fd, F⟩ := c.def_ 22 (d := d__law_bag) rfl
    exact ⟨⟨_, fd, He.glo_ok X G (c.fact 22 (f := .glo "_law_bag") rfl), FunD.bindsN F fun _ _ _ _ _ _ us hl => match us, hl with | [_, _], _ => rfl, sta_fun F⟩⟩
  s__law_mixed := by
    obtain ⟨fd, F⟩ := c.def_ 23 (d := d__law_mixed) rfl
    exact ⟨⟨_, fd, He.glo_ok X G (c.fact 23 (f := .glo "_law_mixed") rfl), FunD.bindsN F fun _ _ _ _ _ _ us hl => match us, hl with | [_], _ => rfl, sta_fun F⟩⟩
  s__law_digit := by
    obtain ⟨fd, F⟩ := c.def_ 24 (d := d__law_digit) rfl
    exact ⟨⟨_, fd, He.glo_ok X G (c.fact 24 (f := .glo "_law_digit") rfl), FunD.bindsN F fun _ _ _ _ _ _ us hl => match us, hl with | [_, _], _ => rfl, sta_fun F⟩⟩
  s__law_marks := by
    obtain ⟨fd, F⟩ := c.def_ 25 (d := d__law_marks) rfl
    exact ⟨⟨_, fd, He.glo_ok X G (c.fact 25 (f := .glo "_law_marks") rfl), FunD.bindsN F fun _ _ _ _ _ _ us hl => match us, hl with | [_, _], _ => rfl, sta_fun F⟩⟩
  s__law_is_right := by
    obtain ⟨fd, F⟩ := c.def_ 26 (d := d__law_is_right) rfl
    exact ⟨⟨_, fd, He.glo_ok X G (c.fact 26 (f := .glo "_law_is_right") rfl), FunD.bindsN F fun _ _ _ _ _ _ us hl => match us, hl with | [_, _, _], _ => rfl, sta_fun F⟩⟩
  s__law_due := by
    obtain ⟨fd, F⟩ := c.def_ 27 (d := d__law_due) rfl
    exact ⟨⟨_, fd, He.glo_ok X G (c.fact 27 (f := .glo "_law_due") rfl), FunD.bindsN F fun _ _ _ _ _ _ us hl => match us, hl with | [_, _, _], _ => rfl, sta_fun F⟩⟩
  s__law_left := by
    obtain ⟨fd, F⟩ := c.def_ 28 (d := d__law_left) rfl
    exact ⟨⟨_, fd, He.glo_ok X G (c.fact 28 (f := .glo "_law_left") rfl), FunD.bindsN F fun _ _ _ _ _ _ us hl => match us, hl with | [_, _], _ => rfl, sta_fun F⟩⟩
  s__law_odd_row := by
    obtain ⟨fd, F⟩ := c.def_ 29 (d := d__law_odd_row) rfl
    exact ⟨⟨_, fd, He.glo_ok X G (c.fact 29 (f := .glo "_law_odd_row") rfl), FunD.bindsN F fun _ _ _ _ _ _ us hl => match us, hl with | [_, _, _], _ => rfl, sta_fun F⟩⟩
  s__law_spoilt := by
    obtain ⟨fd, F⟩ := c.def_ 30 (d := d__law_spoilt) rfl
    exact ⟨⟨_, fd, He.glo_ok X G (c.fact 30 (f := .glo "_law_spoilt") rfl), FunD.bindsN F fun _ _ _ _ _ _ us hl => match us, hl with | [_, _, _], _ => rfl, sta_fun F⟩⟩
  s__law_asked := by
    obtain ⟨fd, F⟩ := c.def_ 31 (d := d__law_asked) rfl
    exact ⟨⟨_, fd, He.glo_ok X G (c.fact 31 (f := .glo "_law_asked") rfl), FunD.bindsN F fun _ _ _ _ _ _ us hl => match us, hl with | [_, _, _], _ => rfl, sta_fun F⟩⟩
  s_law := by
    obtain ⟨fd, F⟩ := c.def_ 32 (d := d_law) rfl
    exact ⟨⟨_, fd, He.glo_ok X G (c.fact 32 (f := .glo "law") rfl), FunD.bindsN F fun _ _ _ _ _ _ us hl => match us, hl with | [_], _ => rfl, sta_fun F⟩⟩
  x_NoBound := exf_of X G (c.fact 46 (f := .exc "NoBound") rfl) (c.fact 47 (f := .glo "NoBound") rfl)
  x_NoDrawing := exf_of X G (c.fact 48 (f := .exc "NoDrawing") rfl) (c.fact 49 (f := .glo "NoDrawing") rfl)
end K76
namespace Snd
open PySem L2 MM
def LeP (a b : T3) : Prop := a.1 < b.1 ∨ (a.1 = b.1 ∧ (a.2.1 < b.2.1 ∨ (a.2.1 = b.2.1 ∧ a.2.2 ≤ b.2.2)))
def leB (a b : T3) : Bool := decide (a.1 < b.1) || (decide (a.1 = b.1) && (decide (a.2.1 < b.2.1) || (decide (a.2.1 = b.2.1) && decide (a.2.2 ≤ b.2.2))))
theorem leB_iff {a b : T3} : leB a b = true ↔ LeP a b := by unfold leB LeP; simp only [Bool.or_eq_true, Bool.and_eq_true, decide_eq_true_eq]
theorem lt_t (x y : T3) : PySem.W.dataLt (tU x) (tU y) = (decide (x.1 < y.1) || (!decide (y.1 < x.1) && (decide (x.2.1 < y.2.1) || (!decide (y.2.1 < x.2.1) && decide (x.2.2 < y.2.2))))) := by
  show PyProof.Rows.lexLt PyProof.Rows.itemOrd [.inl 1, .inl x.1, .inl 1, .inl x.2.1, .inl 1, .inl x.2.2, .inl 0] [.inl 1, .inl y.1, .inl 1, .inl y.2.1, .inl 1, .inl y.2.2, .inl 0] = _
  simp only [PyProof.Rows.lexLt]
  have f : ∀ a b : Int, PyProof.Rows.itemLt (.inl a) (.inl b) = decide (a < b) := fun a b => rfl
  simp only [f, Int.lt_irrefl, decide_false, Bool.false_or, Bool.not_false, Bool.true_and, Bool.and_false, Bool.or_false]
theorem leU_iff (x y : T3) : leU (tU x) (tU y) = leB x y := by
  unfold leU
  rw [lt_t, Bool.eq_iff_iff, leB_iff]
  unfold LeP
  simp only [Bool.not_eq_true', Bool.or_eq_false_iff, Bool.and_eq_false_iff, decide_eq_false_iff_not, Bool.not_eq_false', decide_eq_true_eq]
  omega
theorem LeP.trans {a b c : T3} (h1 : LeP a b) (h2 : LeP b c) : LeP a c := by unfold LeP at *; omega
theorem LeP.total (a b : T3) : LeP a b ∨ LeP b a := by unfold LeP; omega
theorem ins_pw (a : T3) : ∀ l : List T3, l.Pairwise LeP → (insU (fun x y => leU (tU x) (tU y)) a l).Pairwise LeP
  | [], _ => List.pairwise_singleton _ _
  | b :: l, h => by
    obtain ⟨h1, h2⟩ := List.pairwise_cons.mp h
    unfold insU
    rw [leU_iff]
    by_cases c : leB a b = true
    · rw [if_pos c]
      have c := leB_iff.mp c
      refine List.pairwise_cons.mpr ⟨fun x hx => ?_, h⟩
      rcases List.mem_cons.mp hx with rfl | hx
      · exact c
      · exact c.trans (h1 x hx)
    · rw [if_neg c]
      have c : LeP b a := by
        rcases LeP.total a b with q | q
        · exact absurd (leB_iff.mpr q) c
        · exact q
      refine List.pairwise_cons.mpr ⟨fun x hx => ?_, ins_pw a l h2⟩
      rcases List.mem_cons.mp ((perm_ins _ a l).mem_iff.mp hx) with rfl | hx
      · exact c
      · exact h1 x hx
theorem sort_pw : ∀ l : List T3, (sortT l).Pairwise LeP
  | [] => List.Pairwise.nil
  | a :: l => ins_pw a _ (sort_pw l)
def liftsAll (d : Nat) (pre : List T3) : List T3 := (List.range d).flatMap fun i : Nat => (List.range d).flatMap fun j : Nat => (List.range (dueZ pre ((i : Int) + 1)).toNat).map fun w : Nat => ((i : Int) + 1, (j : Int) + 1, (w : Int) + 1)
def okT (pre : List T3) (t : T3) : Bool := decide (t.1 < t.2.1) && (match pre.getLast? with | none => true | some l => leB l t)
def nexts (d : Nat) (pre : List T3) : List T3 := (liftsAll d pre).filter (okT pre)
def step (d : Nat) (rows : List (List T3)) : List (List T3) := rows.flatMap fun pre => (nexts d pre).map fun t => pre ++ [t]
def lvl (d : Nat) : Nat → List (List T3)
  | 0 => [[]]
  | n + 1 => step d (lvl d n)
def upto (d : Nat) : Nat → List (List T3) → List (List T3)
  | 0, _ => []
  | n + 1, rows => rows ++ upto d n (step d rows)
def snd (d : Nat) : List (List T3) := upto d 11 [[]]
theorem sum_nn {l : List T3} (h : ∀ t ∈ l, 1 ≤ t.2.2) : 0 ≤ sumL (l.map (·.2.2)) := sumL_nn fun x hx => by
  obtain ⟨t, ht, rfl⟩ := List.mem_map.mp hx
  have := h t ht
  omega
theorem come_app (a b : List T3) (f : Int) : comeZ (a ++ b) f = comeZ a f + comeZ b f := by unfold comeZ; rw [List.filter_append, List.map_append, sumL_app]
theorem go_app (a b : List T3) (f : Int) : goZ (a ++ b) f = goZ a f + goZ b f := by unfold goZ; rw [List.filter_append, List.map_append, sumL_app]
theorem come_none {l : List T3} {f : Int} (h : ∀ t ∈ l, f ≤ t.1 ∧ t.1 < t.2.1) : comeZ l f = 0 := by
  unfold comeZ
  rw [List.filter_eq_nil_iff.mpr fun t ht => by have := h t ht; simp only [beq_iff_eq]; omega]
  rfl
theorem go_nn {l : List T3} {f : Int} (h : ∀ t ∈ l, 1 ≤ t.2.2) : 0 ≤ goZ l f := by
  unfold goZ
  exact sum_nn fun t ht => h t (List.mem_filter.mp ht).1
theorem mem_lvl {d : Nat} {ts : List T3} (hs : ts.Pairwise LeP) (hg : ∀ t ∈ ts, Good d t) (hn : ∀ x ∈ dueL d ts, 0 ≤ x) : ∀ k, k ≤ ts.length → ts.take k ∈ lvl d k
  | 0, _ => by rw [List.take_zero]; exact List.mem_singleton.mpr rfl
  | k + 1, h => by
    have ih := mem_lvl hs hg hn k (by omega)
    have hk : k < ts.length := h
    have e : ts[k]? = some ts[k] := List.getElem?_eq_getElem hk
    have ht : ts[k] ∈ ts := List.getElem_mem hk
    have tk : ts.take (k + 1) = ts.take k ++ [ts[k]] := by rw [List.take_succ, e]; rfl
    have sp : ts = ts.take k ++ ts[k] :: ts.drop (k + 1) := by rw [← List.drop_eq_getElem_cons hk, List.take_append_drop]
    generalize hT : ts[k] = t at *
    have g := hg t ht
    show _ ∈ step d (lvl d k)
    unfold step
    refine List.mem_flatMap.mpr ⟨_, ih, ?_⟩
    rw [tk]
    refine List.mem_map.mpr ⟨t, ?_, rfl⟩
    have pw := hs
    rw [sp] at pw
    obtain ⟨_, pw2, pw3⟩ := List.pairwise_append.mp pw
    obtain ⟨pw4, _⟩ := List.pairwise_cons.mp pw2
    unfold nexts
    refine List.mem_filter.mpr ⟨?_, ?_⟩
    · have g1 := g.l1
      have g2 := g.lh
      have g3 := g.hd
      have gw := g.w1
      have du : t.2.2 ≤ dueZ (ts.take k) t.1 := by
        have h0 : 0 ≤ dueZ ts t.1 := by
          refine hn _ (List.mem_of_getElem? (i := (t.1 - 1).toNat) ?_)
          exact dueL_at g1 (by omega)
        have a1 : comeZ (t :: ts.drop (k + 1)) t.1 = 0 := come_none fun x hx => by
          rcases List.mem_cons.mp hx with rfl | hx
          · exact ⟨Int.le_refl _, g2⟩
          · have := pw4 x hx
            have gx := (hg x (List.mem_of_mem_drop hx)).lh
            unfold LeP at this
            omega
        have a2 : t.2.2 ≤ goZ (t :: ts.drop (k + 1)) t.1 := by
          have : t :: ts.drop (k + 1) = [t] ++ ts.drop (k + 1) := rfl
          rw [this, go_app]
          have b1 : goZ [t] t.1 = t.2.2 := by
            unfold goZ
            rw [List.filter_cons_of_pos (by simp)]
            show t.2.2 + 0 = _
            omega
          have b2 := go_nn (l := ts.drop (k + 1)) (f := t.1) fun x hx => (hg x (List.mem_of_mem_drop hx)).w1
          omega
        rw [sp] at h0
        unfold dueZ at h0 ⊢
        rw [come_app, go_app] at h0
        omega
      unfold liftsAll
      refine List.mem_flatMap.mpr ⟨(t.1 - 1).toNat, List.mem_range.mpr (by omega), List.mem_flatMap.mpr ⟨(t.2.1 - 1).toNat, List.mem_range.mpr (by omega), List.mem_map.mpr ⟨(t.2.2 - 1).toNat, List.mem_range.mpr ?_, ?_⟩⟩⟩
      · rw [show (((t.1 - 1).toNat : Nat) : Int) + 1 = t.1 by omega]
        omega
      · obtain ⟨a, b, c⟩ := t
        simp only [Prod.mk.injEq]
        simp only at g1 g2 g3 gw
        omega
    · unfold okT
      rw [Bool.and_eq_true]
      refine ⟨decide_eq_true g.lh, ?_⟩
      cases q : (ts.take k).getLast? with
      | none => rfl
      | some l => exact leB_iff.mpr (pw3 l (List.mem_of_getLast? q) t List.mem_cons_self)
theorem upto_mem {d : Nat} {x : List T3} : ∀ (n k j : Nat), j < n → x ∈ lvl d (k + j) → x ∈ upto d n (lvl d k)
  | 0, _, _, h, _ => absurd h (Nat.not_lt_zero _)
  | n + 1, k, 0, _, hx => by
    rw [upto]
    exact List.mem_append.mpr (.inl hx)
  | n + 1, k, j + 1, h, hx => by
    rw [upto]
    refine List.mem_append.mpr (.inr ?_)
    exact upto_mem n (k + 1) j (by omega) (by rw [show k + 1 + j = k + (j + 1) by omega]; exact hx)
theorem lvl_none {d : Nat} : ∀ (n k : Nat), lvl d k = [] → lvl d (k + n) = []
  | 0, _, h => h
  | n + 1, k, h => by
    show step d (lvl d (k + n)) = []
    rw [lvl_none n k h]
    rfl
theorem snd_mem {d : Nat} {ts : List T3} (h11 : lvl d 11 = []) (hs : ts.Pairwise LeP) (hg : ∀ t ∈ ts, Good d t) (hn : ∀ x ∈ dueL d ts, 0 ≤ x) : ts ∈ snd d := by
  have h := mem_lvl hs hg hn ts.length (Nat.le_refl _)
  rw [List.take_of_length_le (Nat.le_refl _)] at h
  have hl : ts.length < 11 := by
    rcases Nat.lt_or_ge ts.length 11 with q | q
    · exact q
    · have := lvl_none (d := d) (ts.length - 11) 11 h11
      rw [show 11 + (ts.length - 11) = ts.length by omega] at this
      rw [this] at h
      cases h
  exact upto_mem 11 0 ts.length hl (by rw [Nat.zero_add]; exact h)
theorem l11 : lvl 1 11 = [] ∧ lvl 2 11 = [] ∧ lvl 3 11 = [] ∧ lvl 4 11 = [] ∧ lvl 5 11 = [] := by decide +kernel
theorem snd_all {d : Int} {ts : List T3} (h1 : 1 ≤ d) (h2 : d ≤ 5) (hs : ts.Pairwise LeP) (hg : ∀ t ∈ ts, Good d t) (hn : ∀ x ∈ dueL d.toNat ts, 0 ≤ x) : ts ∈ snd d.toNat := by
  obtain ⟨a1, a2, a3, a4, a5⟩ := l11
  rcases (show d = 1 ∨ d = 2 ∨ d = 3 ∨ d = 4 ∨ d = 5 by omega) with rfl | rfl | rfl | rfl | rfl
  · exact snd_mem a1 hs hg hn
  · exact snd_mem a2 hs hg hn
  · exact snd_mem a3 hs hg hn
  · exact snd_mem a4 hs hg hn
  · exact snd_mem a5 hs hg hn
def endsN (d : Nat) (ts : List T3) : List T3 := (List.range d).flatMap fun i : Nat => List.replicate (dueZ ts ((i : Int) + 1)).toNat ((i : Int) + 1, (d : Int) + 1, 1)
end Snd
namespace Snd
open PySem L2 MM
end Snd
namespace Snd
open PySem L2 MM
def dd : List T3 → List T3
  | [] => []
  | a :: l => if a ∈ l then dd l else a :: dd l
theorem tU_lay (t : T3) : (tU t).canLay0 = true := by simp [tU, PyData.canLay0, PyData.canLayAll0]
theorem tU_depth (t : T3) : (tU t).depth = 1 := by simp [tU, PyData.depth, PyData.depthAll]
theorem tUs_lay : ∀ zs : List T3, PyData.canLayAll0 (tUs zs) = true
  | [] => by simp [tUs, PyData.canLayAll0]
  | z :: zs => by
    show PyData.canLayAll0 (tU z :: tUs zs) = true
    simp [PyData.canLayAll0, tU_lay z, tUs_lay zs]
theorem tUs_depth : ∀ zs : List T3, PyData.depthAll (tUs zs) ≤ 1
  | [] => by simp [tUs, PyData.depthAll]
  | z :: zs => by
    have h1 := tUs_depth zs
    have h2 := tU_depth z
    show PyData.depthAll (tU z :: tUs zs) ≤ 1
    simp only [PyData.depthAll]
    omega
theorem tU_shaped (z : T3) : SeqAt.shaped (tU z) = true := by
  have h := tU_depth z
  show ((tU z).canLay0 && decide ((tU z).depth ≤ 64)) = true
  rw [Bool.and_eq_true]
  exact ⟨tU_lay z, decide_eq_true (by omega)⟩
theorem tUs_shaped (zs : List T3) : SeqAt.shaped (.list (tUs zs)) = true := by
  have h1 := tUs_depth zs
  have h2 : PyData.depth (.list (tUs zs)) ≤ 64 := by
    simp only [PyData.depth]
    omega
  show (PyData.canLay0 (.list (tUs zs)) && decide (PyData.depth (.list (tUs zs)) ≤ 64)) = true
  rw [Bool.and_eq_true]
  exact ⟨by simp only [PyData.canLay0]; exact tUs_lay zs, decide_eq_true h2⟩
theorem tU_eqv (z w : T3) : PyData.eqv (tU z) (tU w) = decide (z = w) := by
  obtain ⟨a, b, c⟩ := z
  obtain ⟨a', b', c'⟩ := w
  have e : PyData.eqv (tU (a, b, c)) (tU (a', b', c')) = ((a == a') && ((b == b') && ((c == c') && true))) := by simp only [tU, PyData.eqv, PyData.eqvAll]
  rw [e, Bool.eq_iff_iff]
  simp [Prod.mk.injEq]
theorem tUs_eqv : ∀ (z w : List T3), PyData.eqvAll (tUs z) (tUs w) = decide (z = w)
  | [], [] => by simp [tUs, PyData.eqvAll]
  | [], _ :: _ => by simp [tUs, PyData.eqvAll]
  | _ :: _, [] => by simp [tUs, PyData.eqvAll]
  | a :: z, b :: w => by
    show PyData.eqvAll (tU a :: tUs z) (tU b :: tUs w) = _
    simp only [PyData.eqvAll]
    rw [tU_eqv, tUs_eqv z w, Bool.eq_iff_iff]
    simp
theorem l_eqv (z w : List T3) : eqU (.list (tUs z)) (.list (tUs w)) = some (decide (z = w)) := by
  have h1 := tUs_depth z
  show (if (PyData.list (tUs z)).depth ≤ 60 ∨ (PyData.list (tUs w)).depth ≤ 60 then some (PyData.eqv (.list (tUs z)) (.list (tUs w))) else none) = _
  rw [if_pos (by left; simp only [PyData.depth]; omega)]
  simp only [PyData.eqv]
  rw [tUs_eqv]
theorem first_t {t : T3} : ∀ (l : List T3) (k : Nat), t ∈ l → ∃ j, firstI (tU t) (tUs l) k = some (k + j) ∧ (tUs l).eraseIdx j = tUs (l.erase t)
  | a :: l, k, h => by
    show ∃ j, (if PyData.eqv (tU a) (tU t) = true then some k else firstI (tU t) (tUs l) (k + 1)) = some (k + j) ∧ (tU a :: tUs l).eraseIdx j = _
    rw [tU_eqv]
    by_cases c : a = t
    · subst c
      exact ⟨0, by rw [if_pos (decide_eq_true rfl)]; rfl, by rw [List.erase_cons_head]; rfl⟩
    · obtain ⟨j, e1, e2⟩ := first_t l (k + 1) ((List.mem_cons.mp h).resolve_left fun z => c z.symm)
      refine ⟨j + 1, ?_, ?_⟩
      · rw [if_neg (by rw [decide_eq_false c]; exact Bool.false_ne_true), e1]
        congr 1
        omega
      · rw [List.erase_cons_tail (by simpa using c)]
        show tU a :: (tUs l).eraseIdx j = tU a :: tUs (l.erase t)
        rw [e2]
theorem viewOs_shs' : ∀ us : List U, viewOs (shs us) = some us
  | [] => rfl
  | u :: us => by
    show viewOs (.sh u :: shs us) = _
    rw [vOs_c, viewOs_shs' us]
    rfl
theorem erase_shs : ∀ (us : List U) (j : Nat), (shs us).eraseIdx j = shs (us.eraseIdx j)
  | [], _ => rfl
  | _ :: _, 0 => rfl
  | u :: us, j + 1 => by
    show O.sh u :: (shs us).eraseIdx j = O.sh u :: shs (us.eraseIdx j)
    rw [erase_shs us j]
theorem rem_t {t : T3} {l : List T3} (h : t ∈ l) : fRem (shs (tUs l)) [.sh (tU t)] = some (.sh .none, shs (tUs (l.erase t))) := by
  obtain ⟨j, e1, e2⟩ := first_t l 0 h
  rw [Nat.zero_add] at e1
  unfold fRem
  rw [viewOs_shs']
  show (if SeqAt.shaped (.list (tUs l)) = true ∧ SeqAt.shaped (tU t) = true then _ else _) = _
  rw [if_pos ⟨tUs_shaped l, tU_shaped t⟩, e1]
  show some (O.sh .none, (shs (tUs l)).eraseIdx j) = _
  rw [erase_shs, e2]
end Snd
namespace K76
open PySem L2 MM Snd
abbrev lT (ts : List T3) : U := .list (tUs ts)
theorem first_bad {α : Type} (p : α → Bool) : ∀ l : List α, (∀ x ∈ l, p x = true) ∨ ∃ m x, l[m]? = some x ∧ p x = false ∧ ∀ (k : Nat) (y : α), k < m → l[k]? = some y → p y = true
  | [] => .inl fun x h => nomatch h
  | a :: l => by
    cases h : p a with
    | false => exact .inr ⟨0, a, rfl, h, fun k y hk => absurd hk (Nat.not_lt_zero _)⟩
    | true =>
      rcases first_bad p l with q | ⟨m, x, q1, q2, q3⟩
      · exact .inl fun x hx => by
          rcases List.mem_cons.mp hx with rfl | hx
          · exact h
          · exact q x hx
      · refine .inr ⟨m + 1, x, q1, q2, fun k y hk hy => ?_⟩
        cases k with
        | zero => cases hy; exact h
        | succ k => exact q3 k y (by omega) (by simpa using hy)
theorem lpF_pre {t : Tg} {body : MS} (P : Nat → Ev → Prop) : ∀ (us : List U) (m k : Nat), (∀ i u, i < m → us[i]? = some u → ∀ ρ, P (k + i) ρ → ∃ ρ1, bind t u ρ = some ρ1 ∧ ∃ ρ2, (body ρ1 = .nx ρ2 ∨ body ρ1 = .ct ρ2) ∧ P (k + i + 1) ρ2) → m ≤ us.length → ∀ ρ, P k ρ → ∃ ρ', P (k + m) ρ' ∧ lpF t body us ρ = lpF t body (us.drop m) ρ'
  | us, 0, k, _, _, ρ, hp => ⟨ρ, hp, by rw [List.drop_zero]⟩
  | [], m + 1, k, _, hl, ρ, hp => absurd hl (by simp)
  | u :: us, m + 1, k, h, hl, ρ, hp => by
    obtain ⟨ρ1, e1, ρ2, e2, p2⟩ := h 0 u (Nat.succ_pos _) rfl ρ hp
    obtain ⟨ρ', p3, e3⟩ := lpF_pre P us m (k + 1) (fun i v hi hv ρ hp => by
      have := h (i + 1) v (by omega) (by simpa using hv) ρ (by rw [show k + (i + 1) = k + 1 + i by omega]; exact hp)
      rw [show k + (i + 1) + 1 = k + 1 + i + 1 by omega] at this
      exact this) (by simpa using hl) ρ2 p2
    refine ⟨ρ', by rw [show k + (m + 1) = k + 1 + m by omega]; exact p3, ?_⟩
    rw [List.drop_succ_cons, ← e3]
    conv => lhs; unfold lpF
    rw [e1]
    rcases e2 with e2 | e2
    · simp only [e2]
    · simp only [e2]
theorem drop_cons {α : Type} {l : List α} {m : Nat} {x : α} (h : l[m]? = some x) : l.drop m = x :: l.drop (m + 1) := by
  obtain ⟨hl, e⟩ := List.getElem?_eq_some_iff.mp h
  rw [← e]
  exact List.drop_eq_getElem_cons hl
structure Gd (d : Int) (t : T3) : Prop where
  l1 : 1 ≤ t.1
  lh : t.1 < t.2.1
  hd : t.2.1 ≤ d
  w1 : 1 ≤ t.2.2
def goodB (d : Int) (t : T3) : Bool := decide (1 ≤ t.1 ∧ t.1 < t.2.1 ∧ t.2.1 ≤ d ∧ 1 ≤ t.2.2)
theorem goodB_ok {d : Int} {t : T3} (h : goodB d t = true) : Gd d t := by
  have := of_decide_eq_true h
  exact ⟨this.1, this.2.1, this.2.2.1, this.2.2.2⟩
def cross (ts : List T3) (f : Int) : Int := sumL ((ts.filter fun t => decide (t.1 ≤ f) && decide (f < t.2.1)).map (·.2.2))
theorem cross_snoc {ts : List T3} {t : T3} {f : Int} : cross (ts ++ [t]) f = cross ts f + (if t.1 ≤ f ∧ f < t.2.1 then t.2.2 else 0) := by
  unfold cross
  rw [List.filter_append, List.map_append, sumL_app]
  by_cases h : t.1 ≤ f ∧ f < t.2.1
  · rw [List.filter_cons_of_pos (by simpa using h), if_pos h]; simp [sumL]
  · rw [List.filter_cons_of_neg (by simpa using h), if_neg h]; simp [sumL]
theorem snoc_ind {α : Type} {P : List α → Prop} (h0 : P []) (h1 : ∀ l a, P l → P (l ++ [a])) (l : List α) : P l := by
  have : ∀ n, ∀ l : List α, l.length = n → P l := fun n => by
    induction n with
    | zero => intro l e; rw [List.length_eq_zero_iff.mp e]; exact h0
    | succ n ih =>
      intro l e
      have hne : l ≠ [] := fun z => by rw [z] at e; simp at e
      rw [← List.dropLast_concat_getLast hne]
      exact h1 _ _ (ih _ (by rw [List.length_dropLast, e]; rfl))
  exact this _ l rfl
theorem cross_step (ts : List T3) (f : Int) : (∀ t ∈ ts, t.1 < t.2.1) → cross ts (f + 1) = cross ts f - comeZ ts (f + 1) + goZ ts (f + 1) := by
  refine snoc_ind (P := fun ts => (∀ t ∈ ts, t.1 < t.2.1) → cross ts (f + 1) = cross ts f - comeZ ts (f + 1) + goZ ts (f + 1)) (fun _ => rfl) (fun l a ih h => ?_) ts
  have ih := ih fun t ht => h t (List.mem_append.mpr (.inl ht))
  have ha := h a (by simp)
  rw [cross_snoc, cross_snoc, comeZ_snoc, goZ_snoc, ih]
  by_cases c1 : a.1 = f + 1
  · rw [if_pos (show a.1 ≤ f + 1 ∧ f + 1 < a.2.1 by omega), if_neg (show ¬ (a.1 ≤ f ∧ f < a.2.1) by omega), if_neg (show ¬ a.2.1 = f + 1 by omega), if_pos c1]; omega
  · rw [if_neg c1]
    by_cases c2 : a.2.1 = f + 1
    · rw [if_neg (show ¬ (a.1 ≤ f + 1 ∧ f + 1 < a.2.1) by omega), if_pos (show a.1 ≤ f ∧ f < a.2.1 by omega), if_pos c2]; omega
    · rw [if_neg c2]
      by_cases c3 : a.1 ≤ f ∧ f < a.2.1
      · rw [if_pos c3, if_pos (show a.1 ≤ f + 1 ∧ f + 1 < a.2.1 by omega)]; omega
      · rw [if_neg c3, if_neg (show ¬ (a.1 ≤ f + 1 ∧ f + 1 < a.2.1) by omega)]; omega
theorem cross_le {ts : List T3} {d : Nat} (hg : ∀ t ∈ ts, Gd d t) (hn : ∀ x ∈ dueL d ts, 0 ≤ x) : ∀ n : Nat, n ≤ d → cross ts n ≤ n
  | 0, _ => by
    have : (ts.filter fun t => decide (t.1 ≤ ((0 : Nat) : Int)) && decide (((0 : Nat) : Int) < t.2.1)) = [] := List.filter_eq_nil_iff.mpr fun t ht => by
      have := (hg t ht).l1
      simp only [Bool.and_eq_true, decide_eq_true_eq]
      omega
    unfold cross
    rw [this]
    exact Int.le_refl _
  | n + 1, h => by
    have ih := cross_le hg hn n (by omega)
    have e := cross_step ts n fun t ht => (hg t ht).lh
    have z : 0 ≤ dueZ ts ((n : Int) + 1) := hn _ (List.mem_of_getElem? (dueL_get (i := n) (by omega)))
    unfold dueZ at z
    have : cross ts ((n + 1 : Nat) : Int) = cross ts ((n : Int) + 1) := rfl
    omega
theorem le_sum {l : List T3} (h : ∀ t ∈ l, 0 ≤ t.2.2) {t : T3} (ht : t ∈ l) : t.2.2 ≤ sumL (l.map (·.2.2)) := by
  obtain ⟨i, hi⟩ := List.getElem?_of_mem ht
  exact sumL_le (fun x hx => by
    obtain ⟨y, hy, rfl⟩ := List.mem_map.mp hx
    exact h y hy) (by rw [List.getElem?_map, hi]; rfl)
theorem gd_good {ts : List T3} {d : Int} (h1 : 1 ≤ d) (h5 : d ≤ 5) (hg : ∀ t ∈ ts, Gd d t) (hn : ∀ x ∈ dueL d.toNat ts, 0 ≤ x) : ∀ t ∈ ts, Good d t := fun t ht => by
  have g := hg t ht
  have g1 := g.l1
  have g2 := g.lh
  have g3 := g.hd
  have dn : ((d.toNat : Nat) : Int) = d := Int.toNat_of_nonneg (by omega)
  have tn : ((t.1.toNat : Nat) : Int) = t.1 := Int.toNat_of_nonneg (by omega)
  have c := cross_le (d := d.toNat) (by rw [dn]; exact hg) hn t.1.toNat (by omega)
  rw [tn] at c
  have : t.2.2 ≤ cross ts t.1 := le_sum (l := ts.filter fun u => decide (u.1 ≤ t.1) && decide (t.1 < u.2.1)) (fun u hu => by
    have := (hg u (List.mem_filter.mp hu).1).w1
    omega) (List.mem_filter.mpr ⟨ht, by simp only [Bool.and_eq_true, decide_eq_true_eq]; omega⟩)
  exact ⟨g1, g2, g3, g.w1, by omega⟩
theorem minZ_le {xs : List Int} (h : 0 ≤ minZ xs) : ∀ x ∈ xs, 0 ≤ x := fun x hx => by
  cases xs with
  | nil => cases hx
  | cons y ys =>
    obtain ⟨_, m2, m3⟩ := minI_ok ys y
    have h : 0 ≤ minI y ys := h
    rcases List.mem_cons.mp hx with rfl | hx
    · omega
    · have := m3 x hx
      omega
def lenD (d k : Int) : Int := d * (d - 1) / 2 - k
def iD (d k : Int) (D : List T3) : Bool := D.all (goodB d) && (decide (((D.length : Nat) : Int) = lenD d k) && (decide (sortT D = D) && decide (0 ≤ minZ (dueL d.toNat D))))
structure DOk (d k : Int) (D : List T3) : Prop where
  gd : ∀ t ∈ D, Gd d t
  ln : ((D.length : Nat) : Int) = lenD d k
  so : sortT D = D
  mn : 0 ≤ minZ (dueL d.toNat D)
theorem iD_ok {d k : Int} {D : List T3} (h : iD d k D = true) : DOk d k D := by
  unfold iD at h
  rw [Bool.and_eq_true, Bool.and_eq_true, Bool.and_eq_true] at h
  exact ⟨fun t ht => goodB_ok (List.all_eq_true.mp h.1 t ht), of_decide_eq_true h.2.1, of_decide_eq_true h.2.2.1, of_decide_eq_true h.2.2.2⟩
theorem iD_snd {d k : Int} {D : List T3} (h1 : 1 ≤ d) (h5 : d ≤ 5) (h : iD d k D = true) : (∀ t ∈ D, Good d t) ∧ (∀ x ∈ dueL d.toNat D, 0 ≤ x) ∧ D ∈ snd d.toNat := by
  have q := iD_ok h
  have n := minZ_le q.mn
  have g := gd_good h1 h5 q.gd n
  exact ⟨g, n, snd_all h1 h5 (by rw [← q.so]; exact sort_pw D) g n⟩
theorem LeP.anti {a b : T3} (h1 : LeP a b) (h2 : LeP b a) : a = b := by
  obtain ⟨x, y, z⟩ := a
  obtain ⟨x', y', z'⟩ := b
  unfold LeP at *
  simp only at *
  have e1 : x = x' := by omega
  have e2 : y = y' := by omega
  have e3 : z = z' := by omega
  rw [e1, e2, e3]
theorem pw_eq : ∀ {a b : List T3}, a.Pairwise LeP → b.Pairwise LeP → a.Perm b → a = b
  | [], b, _, _, p => by rw [List.nil_perm.mp p]
  | x :: a, [], _, _, p => by simp at p
  | x :: a, y :: b, ha, hb, p => by
    obtain ⟨a1, a2⟩ := List.pairwise_cons.mp ha
    obtain ⟨b1, b2⟩ := List.pairwise_cons.mp hb
    have xy : x = y := by
      have m1 : x ∈ y :: b := p.mem_iff.mp List.mem_cons_self
      have m2 : y ∈ x :: a := p.mem_iff.mpr List.mem_cons_self
      rcases List.mem_cons.mp m1 with e | m1
      · exact e
      · rcases List.mem_cons.mp m2 with e | m2
        · exact e.symm
        · exact LeP.anti (a1 y m2) (b1 x m1)
    subst xy
    rw [pw_eq a2 b2 (List.Perm.cons_inv p)]
theorem sortT_eq {a b : List T3} (p : a.Perm b) : sortT a = sortT b := pw_eq (sort_pw a) (sort_pw b) (sortT_perm.trans (p.trans sortT_perm.symm))
theorem sortT_in (a b : List T3) : sortT (a ++ sortT b) = sortT (a ++ b) := sortT_eq (sortT_perm.append_left a)
def flN (d : Nat) : List T3 := (List.range d).map fun i : Nat => ((i : Int) + 1, (i : Int) + 1, 0)
def walkM : List T3 → Int → Bool
  | [], _ => true
  | t :: ts, p => if t.2.2 = 0 then (if t.1 = p + 1 then walkM ts (p + 1) else false) else (if t.1 ≤ p ∧ p < t.2.1 then walkM ts p else false)
def iM (d : Int) (D M : List T3) : Bool := decide (sortT M = sortT (flN d.toNat ++ (D ++ endsN d.toNat D))) && walkM M 0
theorem iM_w {d : Int} {D M : List T3} (hg : ∀ t ∈ D, Good d t) (h : sortT M = sortT (flN d.toNat ++ (D ++ endsN d.toNat D))) : ∀ t ∈ M, 0 ≤ t.2.2 := fun t ht => by
  have m : t ∈ flN d.toNat ++ (D ++ endsN d.toNat D) := by
    rw [← sortT_mem, ← h, sortT_mem]; exact ht
  rcases List.mem_append.mp m with m | m
  · unfold flN at m
    obtain ⟨i, _, rfl⟩ := List.mem_map.mp m
    exact Int.le_refl _
  · rcases List.mem_append.mp m with m | m
    · have := (hg t m).w1; omega
    · unfold endsN at m
      obtain ⟨i, _, m⟩ := List.mem_flatMap.mp m
      rw [(List.mem_replicate.mp m).2]
      exact (by decide : (0 : Int) ≤ 1)
def wz (D : List T3) : Int := D.foldl (fun a t => a * (t.2.2 * t.2.2)) 1
abbrev En := List T3 × List T3
def eU (e : En) : U := .tuple [lT e.1, lT e.2]
def right (d k : Int) (e : En) : Bool := iD d k e.1 && iM d e.1 e.2
def goW (d k : Int) : List En → List En → Int → Option Int
  | [], _, t => some t
  | e :: es, seen, t => if right d k e = true ∧ e ∉ seen then goW d k es (seen ++ [e]) (t + wz e.1) else none
def wV (d k : Int) (es : List En) : Option Int := goW d k es [] 0
def vO : Option Int → U
  | some z => .int z
  | none => .none
end K76
namespace K76
open PySem L2 MM Snd
local macro_rules
  | `(tactic| simp_arith only [$xs:simpLemma,*] $[$loc:location]?) => `(tactic| simp (config := {decide := true}) (disch := (first | assumption | decide | omega | (simp only [List.length_cons, List.length_nil, List.length_append]; omega))) only [$xs,*, f_mull, f_mulr, ev_var, ev_ex, agV_e, agE_o, agE_x, oo_v, oo_o, bin_e, bin1_o, bin2_o, bin3_o, un_e, un1_o, un2_o, evs_n, evs_c, evs1_o, evs2_o, oso_n, oso_c, osa_n, osa_c, osa1_o, omap_s, lst_e, lst1_o, lst2_o, tup_e, tup1_o, tup2_o, tup3_s, tup3_n, alls_n, alls_c, alls_l, alls_t, cb_e, cb1_o, cb2_o, call_e, call1_o, call2_o, call3_o, call3_x, take_n, take_v, take_o, tkO_sh, tkO_ol, tkO_ot, tkO_sc, put_n, put_o, put_v, ptO_n, ptO_s, call0_e, call01_o, runF_e, run1_r, run1_n, run1_x, outs_n, outs_t, outs_f, mv_e, mv1_sh, mv1_ol, mv1_ot, mv2_o, mt_e, mt1_sh, mt1_ol, mt1_ot, mC_e, asb_e, asb1_o, asb2_o, ble_b, tru_e, tru1_o, tru2_o, and_e, and1_t, and1_f, or_e, or1_t, or1_f, not_e, not1_o, vand_e, vand1_o, vand2_t, vand2_f, vor_e, vor1_o, vor2_t, vor2_f, vnot_e, vnot1_o, vnot2_o, ife_e, if1_t, if1_f,
  ch_e, ch0_o, ch1_o, ch2_o, ch3_t, ch3_f, ch4_o, cn_e, cn1_o, lk_one, lk_more, lk1_o, lk2_o, lk3_t, lk3_f, seq_e, seq1_n, seq1_r, seq1_b, seq1_c, seq1_x, set_e, set1_o, set1_x, drop_e, drop1_o, drop1_x, ret_e, ret1_o, ret1_x, retN_e, nil_e, brk_e, cnt_e, raise_e, sif_e, sif1_t, sif1_f, aug_e, unp_e, unp1_o, unp2_o, unp3_o, unpE_ol, unpE_ot, unpE_tu, unpE_li, shs_n, shs_c, sal_n, sal_c, par_e, par1_o, par2_o, for_e, for1_o, lp_n, lp1_o, lp2_n, lp2_c, lp2_b, lp2_r, lp2_x, bind_nm, bind_tt, bind_tl, sr_e, sr1_o, sr2_o, sr3_o, inO_n, inO_c, f_sub, f_add, f_lt, f_le, f_gt, f_ge, f_eq, f_ne, f_neg, f_mod, f_div, f_pow, f_abs, f_len, f_lensc, f_lenl, f_lent, f_max2, f_min2, f_isi_ii, f_isi_ib, tr_b, tr_i, idx_e, idx1_o, at_l, at_t, at_ol, at_ot, at_sc, at_0, at_1, at_2, at_3, at_4, at_5, at_n, shE_s, decide_true, decide_false, mth_e, mth1_o, mth2_o, mth3_o, mth4_o, app_e, clr_e, tn0, tn1, tn2, tn3, tn4, tn5, tn6, tn7, tn8, tn9, tn10, tn11, tn12, at_6, at_7, at_8, at_9, at_10, at_11, at_12, while_e, evB_n, evB_s, eb1_o, eb2_o, sl_e, sl0_o, sl1_o, sl2_o, sl3_o, fSl_sh, fSl_ol, sa_e, sa1_v, sa1_o, sa2_o, itU_l, itU_t, fLi_sh, fLi_tu, fLi_ol, f_sum, f_sumo, rev_sh, rev_ol, isi_lst_l, isi_lst_o, isi_tup_t, fEq_nil, fEq_nilo, viewO_shs, shs_len, iU_len, ax_e, axB_o, ax0_o, ax1_o, ax2_o, ax3_o, ax4_o, ax5_o, at_t0, at_t1, at_t2, bind_t3, omap_n, f_addI, par3_e, par30_o, par31_o, mp_e, pmB_l, pmB_t, pmA_o, pm0_l, pm0_t, pm1_o, pm2_o, pm3_o, pm4_o, bor_e, borT_e, borO_o, borB_o, borO_x, borB_x, vwE_n, vwE_c, vw1_n, vw1_s, vw1_sc, vw1_ol, vw1_ot, vO_s, vO_l, vO_t, vOs_n, vOs_c, vcons_o, frz_e, frzO_o, frz2_o, frzO_x, try_e, try1_n, try1_r, try1_x, tryH_s, lkH, clr_r, clr_n, six_e, six0_o, six01_o, pix_e, pix1_o, pix2_o, ixN_l, six1_o, six2_o, bin1_x, bin2_x, un1_x, evs1_x, evs2_x, cb1_x, call1_x, lst1_x, tup1_x, f_maxD, fNe_nilo, eq_t1, eq_t2, eq_t3, eq_t4, eq_i1, eq_i2, eq_i3, eq_i4, viewOs_shs, ne_i1, ne_i2, ne_i3, ne_i4, ne_t1, ne_t2, ne_t3, ne_t4, ne_b, all_tt, isi_bl_b, forV_e, fv0_ol, fv0_sh, nl0_e, nl1_e, nla_o, nlb_o, nlit_s, keO_y, scO_i, nset_e, nst_o, nset0_e, nset1_o, nset2_s, npix_e, ndAt_y, nget_e, ng0_s, nget1_o, ng1_o, nget2_e, ng2_s, nget3_s, ndO_y, f_lenN, f_keysN, srcIt_e, nwO_y, si1_s, f_intb, f_inti, fTup_sh, fTup_ol, mt1_nd, tkO_nd, nix_e, nin_e, srcKy_e, sky_d, sky_f, nixf_e, src2X_e, s2a_o, s2b_s, sqB_l, sqB_u, zipX_ll, zipX_lt, zipX_tl,
  List.map_cons, List.map_nil, List.cons_append, List.nil_append, List.append_nil, List.replicate_succ, List.replicate_zero, List.getElem?_cons_zero, List.getElem?_cons_succ, List.getElem?_nil, List.set_cons_zero, List.set_cons_succ, List.set_nil, List.length_cons, List.length_nil, Option.getD_some, Option.getD_none, Option.bind_some, Option.some.injEq, reduceIte, Bool.not_true, Bool.not_false, intE] $[$loc]?)
theorem nat_mem {d : Int} (h : 0 ≤ d) : ((d.toNat : Nat) : Int) = d := Int.toNat_of_nonneg h
theorem tb {l h w : Int} : tU (l, h, w) = .tuple [.int l, .int h, .int w] := rfl
theorem asked_ok (d : Int) (h1 : 1 ≤ d) (h2 : d ≤ 5) : m_asked_degree [.sh (.int d), .sh (.int 5)] = .ok (.sh .none) [some (.sh (.int d)), some (.sh (.int 5))] := by
  have w : m_is_whole [.sh (.int d)] = .ok (.sh (.bool true)) [some (.sh (.int d))] := rfl
  unfold m_asked_degree b_asked_degree
  simp_arith only [w, h1, h2]
def Pv (d : Int) (ts : List T3) (k : Nat) (ρ : Ev) : Prop := ∃ (x3 x4 x5 : Option O), ρ = [some (.sh (.int d)), some (.sh (lT ts)), some (.ol (shs (iU (dueL d.toNat (ts.take k))))), x3, x4, x5]
theorem ends_ok (d : Int) (ts : List T3) (h1 : 1 ≤ d) (h2 : d ≤ 5) (hg : ∀ t ∈ ts, Gd d t) : m_ends_at [.sh (.int d), .sh (lT ts)] = .ok (.ol (shs (iU (dueL d.toNat ts)))) [some (.sh (.int d)), some (.sh (lT ts))] := by
  have R1 : ∀ ρ, fMul (.ol [.sh (.int 1)]) (.sh (.int d)) ρ = .ok (.ol (shs (iU (dueL d.toNat (ts.take 0))))) ρ := by
    intro ρ
    have := rep_ones (d := d.toNat) (z := 1) (ρ := ρ) (by omega)
    rwa [nat_mem (by omega), ← dueL_nil] at this
  obtain ⟨ρ', e, x3, x4, x5, rfl⟩ := lpF_ix (t := .tp [3, 4, 5]) (body := b_ends_at_1) (Pv d ts) (tUs ts) 0 (fun k u hu ρ hp => by
    obtain ⟨t, ht, rfl⟩ := tUs_get hu
    rw [Nat.zero_add] at hp ⊢
    obtain ⟨x3, x4, x5, rfl⟩ := hp
    refine ⟨_, bind_t3, ?_⟩
    have g := hg t (List.mem_of_getElem? ht)
    have g1 := g.l1
    have g2 := g.lh
    have g3 := g.hd
    have tk : ts.take (k + 1) = ts.take k ++ [t] := by
      rw [List.take_succ, ht]; rfl
    obtain ⟨l, h, w⟩ := t
    simp only at g1 g2 g3
    have A1 : at' (shs (iU (dueL d.toNat (ts.take k)))) (l - 1) = some (.sh (.int (dueZ (ts.take k) l))) := so_at (by omega) (dueL_at g1 (by omega))
    have I1 : ixN d.toNat (l - 1) = some (l - 1).toNat := ixN_l (by omega) (by omega)
    have A2 : at' (shs (iU ((dueL d.toNat (ts.take k)).set (l - 1).toNat (dueZ (ts.take k) l - w)))) (h - 1) = some (.sh (.int (dueZ (ts.take k) h))) := so_at (by omega) (dueL_snoc_at g1 (by omega) (by omega))
    have I2 : ixN d.toNat (h - 1) = some (h - 1).toNat := ixN_l (by omega) (by omega)
    have E5 : ((dueL d.toNat (ts.take k)).set (l - 1).toNat (dueZ (ts.take k) l - w)).set (h - 1).toNat (dueZ (ts.take k) h + w) = dueL d.toNat (ts.take (k + 1)) := by
      rw [tk]; exact (dueL_snoc g1 g2 (by omega)).symm
    generalize hq : b_ends_at_1 _ = q
    unfold b_ends_at_1 at hq
    simp_arith only [A1, I1, A2, I2, E5, so_set, List.length_set, dueL_len] at hq
    exact ⟨_, .inl hq.symm, _, _, _, rfl⟩) [some (.sh (.int d)), some (.sh (lT ts)), some (.ol (shs (iU (dueL d.toNat (ts.take 0))))), none, none, none] ⟨none, none, none, rfl⟩
  rw [Nat.zero_add, tUs_len, List.take_of_length_le (Nat.le_refl _)] at e
  have a := asked_ok d h1 h2
  generalize hq : m_ends_at _ = q
  unfold m_ends_at b_ends_at at hq
  simp_arith only [a, R1, e, tUs_len] at hq
  subst hq
  rfl
theorem due_ne {d : Int} {ts : List T3} (h1 : 1 ≤ d) : dueL d.toNat ts ≠ [] := fun h => by
  have := dueL_len (d := d.toNat) (ts := ts)
  rw [h] at this
  simp at this
  omega
theorem sound_ok (d : Int) (ts : List T3) (h1 : 1 ≤ d) (h2 : d ≤ 5) (hg : ∀ t ∈ ts, Gd d t) : m_sound [.sh (.int d), .sh (lT ts)] = .ok (.sh (.bool (decide (0 ≤ minZ (dueL d.toNat ts))))) [some (.sh (.int d)), some (.sh (lT ts))] := by
  have e := ends_ok d ts h1 h2 hg
  have hm := fun ρ => f_minl (ρ := ρ) (due_ne (ts := ts) h1)
  generalize hq : m_sound _ = q
  unfold m_sound b_sound at hq
  simp_arith only [e, hm] at hq
  exact hq.symm
theorem fSort_s {ts : List T3} {ρ : Ev} (h : ts.length ≤ 16777216) : fSort [.sh (.list (tUs ts))] ρ = .ok (.ol (shs (tUs (sortT ts)))) ρ := by
  simp only [fSort, lstE, okSort_t h, if_true]
  unfold tUs sortT
  rw [sort_map]
theorem ne_os (a b : List T3) (ρ : Ev) : fNe (.ol (shs (tUs a))) (.sh (.list (tUs b))) ρ = .ok (.sh (.bool (!decide (a = b)))) ρ := by
  have v1 : viewO (.ol (shs (tUs a))) = some (.list (tUs a)) := by simp only [viewO, viewOs_shs]
  have v2 : viewO (.sh (.list (tUs b))) = some (.list (tUs b)) := rfl
  simp only [fNe, v1, v2, l_eqv]
theorem ne_oo (a b : List T3) (ρ : Ev) : fNe (.ol (shs (tUs a))) (.ol (shs (tUs b))) ρ = .ok (.sh (.bool (!decide (a = b)))) ρ := by
  have v1 : ∀ a : List T3, viewO (.ol (shs (tUs a))) = some (.list (tUs a)) := fun a => by simp only [viewO, viewOs_shs]
  simp only [fNe, v1, l_eqv]
def Pd (d k : Int) (D : List T3) (_ : Nat) (ρ : Ev) : Prop := ∃ (x3 x4 x5 : Option O), ρ = [some (.sh (.int d)), some (.sh (.int k)), some (.sh (lT D)), x3, x4, x5]
theorem d_turn (d k : Int) (D : List T3) (l h w : Int) : b_is_drawing_1 [some (.sh (.int d)), some (.sh (.int k)), some (.sh (lT D)), some (.sh (.int l)), some (.sh (.int h)), some (.sh (.int w))] =
    if goodB d (l, h, w) = true then .nx [some (.sh (.int d)), some (.sh (.int k)), some (.sh (lT D)), some (.sh (.int l)), some (.sh (.int h)), some (.sh (.int w))] else .rt (.sh (.bool false)) [some (.sh (.int d)), some (.sh (.int k)), some (.sh (lT D)), some (.sh (.int l)), some (.sh (.int h)), some (.sh (.int w))] := by
  unfold goodB
  generalize hq : b_is_drawing_1 _ = q
  unfold b_is_drawing_1 at hq
  generalize lT D = u at *
  simp only [decide_eq_true_eq]
  by_cases c1 : 1 ≤ l
  · by_cases c2 : l < h
    · by_cases c3 : h ≤ d
      · by_cases c4 : w < 1
        · simp_arith only [c1, c2, c3, c4] at hq
          rw [if_neg (by omega)]; exact hq.symm
        · simp_arith only [c1, c2, c3, c4] at hq
          rw [if_pos (by omega)]; exact hq.symm
      · simp_arith only [c1, c2, c3] at hq
        rw [if_neg (by omega)]; exact hq.symm
    · simp_arith only [c1, c2] at hq
      rw [if_neg (by omega)]; exact hq.symm
  · simp_arith only [c1] at hq
    rw [if_neg (by omega)]; exact hq.symm
theorem d_loop (d k : Int) (D : List T3) (x3 x4 x5 : Option O) : (D.all (goodB d) = true ∧ ∃ y3 y4 y5, lpF (.tp [3, 4, 5]) b_is_drawing_1 (tUs D) [some (.sh (.int d)), some (.sh (.int k)), some (.sh (lT D)), x3, x4, x5] = .nx [some (.sh (.int d)), some (.sh (.int k)), some (.sh (lT D)), y3, y4, y5]) ∨
    (D.all (goodB d) = false ∧ ∃ y3 y4 y5, lpF (.tp [3, 4, 5]) b_is_drawing_1 (tUs D) [some (.sh (.int d)), some (.sh (.int k)), some (.sh (lT D)), x3, x4, x5] = .rt (.sh (.bool false)) [some (.sh (.int d)), some (.sh (.int k)), some (.sh (lT D)), y3, y4, y5]) := by
  rcases first_bad (goodB d) D with g | ⟨m, t, g1, g2, g3⟩
  · refine .inl ⟨List.all_eq_true.mpr g, ?_⟩
    obtain ⟨ρ', e, y3, y4, y5, rfl⟩ := lpF_ix (t := .tp [3, 4, 5]) (body := b_is_drawing_1) (Pd d k D) (tUs D) 0 (fun n u hu ρ hp => by
      obtain ⟨t, ht, rfl⟩ := tUs_get hu
      obtain ⟨x3, x4, x5, rfl⟩ := hp
      obtain ⟨l, h, w⟩ := t
      refine ⟨_, bind_t3, ?_⟩
      have B := d_turn d k D l h w
      rw [if_pos (g _ (List.mem_of_getElem? ht))] at B
      exact ⟨_, .inl B, _, _, _, rfl⟩) [some (.sh (.int d)), some (.sh (.int k)), some (.sh (lT D)), x3, x4, x5] ⟨_, _, _, rfl⟩
    exact ⟨y3, y4, y5, e⟩
  · refine .inr ⟨?_, ?_⟩
    · cases q : D.all (goodB d) with
      | false => rfl
      | true =>
        have := List.all_eq_true.mp q t (List.mem_of_getElem? g1)
        rw [g2] at this; cases this
    · have hm : m ≤ (tUs D).length := by
        rw [tUs_len]
        have := (List.getElem?_eq_some_iff.mp g1).1
        omega
      obtain ⟨ρ', ⟨y3, y4, y5, rfl⟩, e⟩ := lpF_pre (t := .tp [3, 4, 5]) (body := b_is_drawing_1) (Pd d k D) (tUs D) m 0 (fun n u hn hu ρ hp => by
        obtain ⟨t, ht, rfl⟩ := tUs_get hu
        obtain ⟨x3, x4, x5, rfl⟩ := hp
        obtain ⟨l, h, w⟩ := t
        refine ⟨_, bind_t3, ?_⟩
        have B := d_turn d k D l h w
        rw [if_pos (g3 n _ hn ht)] at B
        exact ⟨_, .inl B, _, _, _, rfl⟩) hm [some (.sh (.int d)), some (.sh (.int k)), some (.sh (lT D)), x3, x4, x5] ⟨_, _, _, rfl⟩
      have dc : (tUs D).drop m = tU t :: (tUs D).drop (m + 1) := drop_cons (by unfold tUs; rw [List.getElem?_map, g1]; rfl)
      obtain ⟨l, h, w⟩ := t
      have B := d_turn d k D l h w
      rw [g2, if_neg Bool.false_ne_true] at B
      refine ⟨some (.sh (.int l)), some (.sh (.int h)), some (.sh (.int w)), ?_⟩
      rw [e, dc, lp_go bind_t3]
      show lp2 _ _ _ (b_is_drawing_1 [some (.sh (.int d)), some (.sh (.int k)), some (.sh (lT D)), some (.sh (.int l)), some (.sh (.int h)), some (.sh (.int w))]) = _
      rw [B, lp2_r]
theorem is_drawing_ok (d k : Int) (D : List T3) (h1 : 1 ≤ d) (h2 : d ≤ 5) (hl : D.length ≤ 1000) : m_is_drawing [.sh (.int d), .sh (.int k), .sh (lT D)] = .ok (.sh (.bool (iD d k D))) [some (.sh (.int d)), some (.sh (.int k)), some (.sh (lT D))] := by
  have M : d.natAbs < 2 ^ 64 := by omega
  have S := fun ρ => fSort_s (ts := D) (ρ := ρ) (by omega)
  have N := ne_os (sortT D) D
  have TL : (tUs D).length = D.length := tUs_len
  unfold iD lenD
  generalize hq : m_is_drawing _ = q
  unfold m_is_drawing b_is_drawing at hq
  rcases d_loop d k D none none none with ⟨g, y3, y4, y5, e⟩ | ⟨g, y3, y4, y5, e⟩
  · rw [g, Bool.true_and]
    have so := sound_ok d D h1 h2 fun t ht => goodB_ok (List.all_eq_true.mp g t ht)
    by_cases c1 : ((D.length : Nat) : Int) = d * (d - 1) / 2 - k
    · rw [decide_eq_true c1, Bool.true_and]
      by_cases c2 : sortT D = D
      · have N' : ∀ ρ, fNe (.ol (shs (tUs D))) (.sh (.list (tUs D))) ρ = .ok (.sh (.bool false)) ρ := fun ρ => ne_t2
        simp_arith only [forV_e, fv0_sh, e, M, c1, S, c2, N', so, TL] at hq
        rw [decide_eq_true c2, Bool.true_and]
        exact hq.symm
      · simp_arith only [forV_e, fv0_sh, e, M, c1, S, N, c2, TL] at hq
        rw [decide_eq_false c2, Bool.false_and]
        exact hq.symm
    · simp_arith only [forV_e, fv0_sh, e, M, c1, TL] at hq
      rw [decide_eq_false c1, Bool.false_and]
      exact hq.symm
  · rw [g, Bool.false_and]
    simp_arith only [forV_e, fv0_sh, e] at hq
    exact hq.symm
end K76
namespace K76
open PySem L2 MM Snd
local macro_rules
  | `(tactic| simp_arith only [$xs:simpLemma,*] $[$loc:location]?) => `(tactic| simp (config := {decide := true}) (disch := (first | assumption | decide | omega | (simp only [List.length_cons, List.length_nil, List.length_append]; omega))) only [$xs,*, f_mull, f_mulr, ev_var, ev_ex, agV_e, agE_o, agE_x, oo_v, oo_o, bin_e, bin1_o, bin2_o, bin3_o, un_e, un1_o, un2_o, evs_n, evs_c, evs1_o, evs2_o, oso_n, oso_c, osa_n, osa_c, osa1_o, omap_s, lst_e, lst1_o, lst2_o, tup_e, tup1_o, tup2_o, tup3_s, tup3_n, alls_n, alls_c, alls_l, alls_t, cb_e, cb1_o, cb2_o, call_e, call1_o, call2_o, call3_o, call3_x, take_n, take_v, take_o, tkO_sh, tkO_ol, tkO_ot, tkO_sc, put_n, put_o, put_v, ptO_n, ptO_s, call0_e, call01_o, runF_e, run1_r, run1_n, run1_x, outs_n, outs_t, outs_f, mv_e, mv1_sh, mv1_ol, mv1_ot, mv2_o, mt_e, mt1_sh, mt1_ol, mt1_ot, mC_e, asb_e, asb1_o, asb2_o, ble_b, tru_e, tru1_o, tru2_o, and_e, and1_t, and1_f, or_e, or1_t, or1_f, not_e, not1_o, vand_e, vand1_o, vand2_t, vand2_f, vor_e, vor1_o, vor2_t, vor2_f, vnot_e, vnot1_o, vnot2_o, ife_e, if1_t, if1_f,
  ch_e, ch0_o, ch1_o, ch2_o, ch3_t, ch3_f, ch4_o, cn_e, cn1_o, lk_one, lk_more, lk1_o, lk2_o, lk3_t, lk3_f, seq_e, seq1_n, seq1_r, seq1_b, seq1_c, seq1_x, set_e, set1_o, set1_x, drop_e, drop1_o, drop1_x, ret_e, ret1_o, ret1_x, retN_e, nil_e, brk_e, cnt_e, raise_e, sif_e, sif1_t, sif1_f, aug_e, unp_e, unp1_o, unp2_o, unp3_o, unpE_ol, unpE_ot, unpE_tu, unpE_li, shs_n, shs_c, sal_n, sal_c, par_e, par1_o, par2_o, for_e, for1_o, lp_n, lp1_o, lp2_n, lp2_c, lp2_b, lp2_r, lp2_x, bind_nm, bind_tt, bind_tl, sr_e, sr1_o, sr2_o, sr3_o, inO_n, inO_c, f_sub, f_add, f_lt, f_le, f_gt, f_ge, f_eq, f_ne, f_neg, f_mod, f_div, f_pow, f_abs, f_len, f_lensc, f_lenl, f_lent, f_max2, f_min2, f_isi_ii, f_isi_ib, tr_b, tr_i, idx_e, idx1_o, at_l, at_t, at_ol, at_ot, at_sc, at_0, at_1, at_2, at_3, at_4, at_5, at_n, shE_s, decide_true, decide_false, mth_e, mth1_o, mth2_o, mth3_o, mth4_o, app_e, clr_e, tn0, tn1, tn2, tn3, tn4, tn5, tn6, tn7, tn8, tn9, tn10, tn11, tn12, at_6, at_7, at_8, at_9, at_10, at_11, at_12, while_e, evB_n, evB_s, eb1_o, eb2_o, sl_e, sl0_o, sl1_o, sl2_o, sl3_o, fSl_sh, fSl_ol, sa_e, sa1_v, sa1_o, sa2_o, itU_l, itU_t, fLi_sh, fLi_tu, fLi_ol, f_sum, f_sumo, rev_sh, rev_ol, isi_lst_l, isi_lst_o, isi_tup_t, fEq_nil, fEq_nilo, viewO_shs, shs_len, iU_len, ax_e, axB_o, ax0_o, ax1_o, ax2_o, ax3_o, ax4_o, ax5_o, at_t0, at_t1, at_t2, bind_t3, omap_n, f_addI, par3_e, par30_o, par31_o, mp_e, pmB_l, pmB_t, pmA_o, pm0_l, pm0_t, pm1_o, pm2_o, pm3_o, pm4_o, bor_e, borT_e, borO_o, borB_o, borO_x, borB_x, vwE_n, vwE_c, vw1_n, vw1_s, vw1_sc, vw1_ol, vw1_ot, vO_s, vO_l, vO_t, vOs_n, vOs_c, vcons_o, frz_e, frzO_o, frz2_o, frzO_x, try_e, try1_n, try1_r, try1_x, tryH_s, lkH, clr_r, clr_n, six_e, six0_o, six01_o, pix_e, pix1_o, pix2_o, ixN_l, six1_o, six2_o, bin1_x, bin2_x, un1_x, evs1_x, evs2_x, cb1_x, call1_x, lst1_x, tup1_x, f_maxD, fNe_nilo, eq_t1, eq_t2, eq_t3, eq_t4, eq_i1, eq_i2, eq_i3, eq_i4, viewOs_shs, ne_i1, ne_i2, ne_i3, ne_i4, ne_t1, ne_t2, ne_t3, ne_t4, ne_b, all_tt, isi_bl_b, forV_e, fv0_ol, fv0_sh, nl0_e, nl1_e, nla_o, nlb_o, nlit_s, keO_y, scO_i, nset_e, nst_o, nset0_e, nset1_o, nset2_s, npix_e, ndAt_y, nget_e, ng0_s, nget1_o, ng1_o, nget2_e, ng2_s, nget3_s, ndO_y, f_lenN, f_keysN, srcIt_e, nwO_y, si1_s, f_intb, f_inti, fTup_sh, fTup_ol, mt1_nd, tkO_nd, nix_e, nin_e, srcKy_e, sky_d, sky_f, nixf_e, src2X_e, s2a_o, s2b_s, sqB_l, sqB_u, zipX_ll, zipX_lt, zipX_tl,
  List.map_cons, List.map_nil, List.cons_append, List.nil_append, List.append_nil, List.replicate_succ, List.replicate_zero, List.getElem?_cons_zero, List.getElem?_cons_succ, List.getElem?_nil, List.set_cons_zero, List.set_cons_succ, List.set_nil, List.length_cons, List.length_nil, Option.getD_some, Option.getD_none, Option.bind_some, Option.some.injEq, reduceIte, Bool.not_true, Bool.not_false, intE] $[$loc]?)
theorem cross_nn {ts : List T3} {f : Int} (h : ∀ t ∈ ts, 0 ≤ t.2.2) : 0 ≤ cross ts f := sumL_nn fun x hx => by
  obtain ⟨t, ht, rfl⟩ := List.mem_map.mp hx
  exact h t (List.mem_filter.mp ht).1
theorem due_le {ts : List T3} {d : Nat} (hg : ∀ t ∈ ts, Gd d t) (hn : ∀ x ∈ dueL d ts, 0 ≤ x) (i : Nat) (hi : i < d) : 0 ≤ dueZ ts ((i : Int) + 1) ∧ dueZ ts ((i : Int) + 1) ≤ (i : Int) + 1 := by
  refine ⟨hn _ (List.mem_of_getElem? (dueL_get hi)), ?_⟩
  have c := cross_le hg hn i (by omega)
  have e := cross_step ts i fun t ht => (hg t ht).lh
  have z := cross_nn (ts := ts) (f := (i : Int) + 1) fun t ht => by have := (hg t ht).w1; omega
  unfold dueZ
  omega
def mks (d : Int) (ts : List T3) (k : Nat) : List T3 := ts ++ (List.range k).flatMap fun i : Nat => List.replicate (dueZ ts ((i : Int) + 1)).toNat ((i : Int) + 1, d + 1, 1)
theorem mks_succ (d : Int) (ts : List T3) (k : Nat) : mks d ts (k + 1) = mks d ts k ++ List.replicate (dueZ ts ((k : Int) + 1)).toNat ((k : Int) + 1, d + 1, 1) := by
  unfold mks
  rw [List.range_succ, List.flatMap_append, ← List.append_assoc]
  simp
theorem mks_end (d : Int) (ts : List T3) (h : 0 ≤ d) : mks d ts d.toNat = ts ++ endsN d.toNat ts := by
  unfold mks endsN
  rw [nat_mem h]
theorem mks_len (d : Int) (ts : List T3) (hs : ∀ i : Nat, (i : Int) < d → dueZ ts ((i : Int) + 1) ≤ 60) : ∀ k : Nat, (k : Int) ≤ d → (mks d ts k).length ≤ ts.length + 60 * k
  | 0, _ => by unfold mks; simp
  | k + 1, h => by
    have ih := mks_len d ts hs k (by omega)
    have := hs k (by omega)
    rw [mks_succ, List.length_append, List.length_replicate]
    omega
theorem mul_one (u : U) (j : Int) (ρ : Ev) (h0 : 0 ≤ j) (h : j ≤ 1000) : fMul (.ol [.sh u]) (.sh (.int j)) ρ = .ok (.ol (shs (List.replicate j.toNat u))) ρ := by
  have a : allSh [O.sh u] = some [u] := rfl
  have r : (List.replicate j.toNat [u]).flatten = List.replicate j.toNat u := by simp
  simp only [fMul, intE, olE, a]
  rw [if_pos (by simp only [List.length_singleton]; omega), r]
theorem ext_t (A B : List T3) (h : A.length + B.length ≤ 16777216) : fExt (shs (tUs A)) [.ol (shs (tUs B))] = some (.sh .none, shs (tUs (A ++ B))) := by
  have : (shs (tUs A)).length + (shs (tUs B)).length ≤ 16777216 := by rw [shs_len, shs_len, tUs_len, tUs_len]; exact h
  simp only [fExt, if_pos this]
  unfold shs tUs
  rw [List.map_append, List.map_append]
theorem src1_sh {f : List U → List U} {m : ME} {us : List U} {ρ ρ1 : Ev} (h : m ρ = .ok (.sh (.list us)) ρ1) : src1 f [.ex m] ρ = .ok (f us) ρ1 := by
  unfold src1
  simp only [evAs, evA, h]
  rfl
def Pm (d : Int) (ts : List T3) (k : Nat) (ρ : Ev) : Prop := ∃ (x3 x4 : Option O), ρ = [some (.sh (.int d)), some (.sh (lT ts)), some (to (mks d ts k)), x3, x4]
theorem between_ok (d : Int) (ts : List T3) (h1 : 1 ≤ d) (h2 : d ≤ 5) (hl : ts.length ≤ 1000) (hg : ∀ t ∈ ts, Gd d t) (hn : ∀ x ∈ dueL d.toNat ts, 0 ≤ x) : m_marks_between [.sh (.int d), .sh (lT ts)] = .ok (to (sortT (ts ++ endsN d.toNat ts))) [some (.sh (.int d)), some (.sh (lT ts))] := by
  have dn := nat_mem (d := d) (by omega)
  have du : ∀ i : Nat, (i : Int) < d → 0 ≤ dueZ ts ((i : Int) + 1) ∧ dueZ ts ((i : Int) + 1) ≤ 60 := fun i hi => by
    have := due_le (d := d.toNat) (by rw [dn]; exact hg) hn i (by omega)
    omega
  have ml := mks_len d ts fun i hi => (du i hi).2
  obtain ⟨ρ', e, x3, x4, rfl⟩ := lpF_ix (t := .tp [3, 4]) (body := b_marks_between_1) (Pm d ts) (enumU 0 (iU (dueL d.toNat ts))) 0 (fun n u hu ρ hp => by
    obtain ⟨w, hw, rfl⟩ := enumU_get _ _ _ _ hu
    rw [Nat.zero_add] at hp ⊢
    have hi : n < d.toNat := by
      have := (List.getElem?_eq_some_iff.mp hw).1
      rwa [iU_len, dueL_len] at this
    have hw' : w = .int (dueZ ts ((n : Int) + 1)) := by
      unfold iU at hw
      rw [List.getElem?_map, dueL_get hi] at hw
      exact (Option.some.inj hw).symm
    subst hw'
    obtain ⟨x3, x4, rfl⟩ := hp
    have hd := du n (by omega)
    have hm := ml n (by omega)
    refine ⟨[some (.sh (.int d)), some (.sh (lT ts)), some (to (mks d ts n)), some (.sh (.int (n : Int))), some (.sh (.int (dueZ ts ((n : Int) + 1))))], rfl, ?_⟩
    have MU := fun ρ => mul_one (.tuple [.int ((n : Int) + 1), .int (d + 1), .int 1]) (dueZ ts ((n : Int) + 1)) ρ hd.1 (by omega)
    have RT : List.replicate (dueZ ts ((n : Int) + 1)).toNat (PyData.tuple [.int ((n : Int) + 1), .int (d + 1), .int 1]) = tUs (List.replicate (dueZ ts ((n : Int) + 1)).toNat ((n : Int) + 1, d + 1, 1)) := by
      unfold tUs
      rw [List.map_replicate]
      rfl
    have EX := ext_t (mks d ts n) (List.replicate (dueZ ts ((n : Int) + 1)).toNat ((n : Int) + 1, d + 1, 1)) (by rw [List.length_replicate]; omega)
    rw [← RT, ← mks_succ] at EX
    generalize hq : b_marks_between_1 _ = q
    unfold b_marks_between_1 at hq
    generalize hlu : lT ts = u at hq
    simp_arith only [MU, EX] at hq
    subst hlu
    exact ⟨_, .inl hq.symm, _, _, rfl⟩) [some (.sh (.int d)), some (.sh (lT ts)), some (to (mks d ts 0)), none, none] ⟨none, none, rfl⟩
  rw [Nat.zero_add, enumU_len, iU_len, dueL_len, mks_end d ts (by omega)] at e
  have m0 : mks d ts 0 = ts := by unfold mks; simp
  rw [m0] at e
  have en := ends_ok d ts h1 h2 hg
  have S : sFor (.tp [3, 4]) (src1 (enumU 0) [(.ex (mFrz (mCall m_ends_at [(.var 0), (.var 1)])))]) b_marks_between_1 [some (.sh (.int d)), some (.sh (lT ts)), some (to ts), none, none] = .nx [some (.sh (.int d)), some (.sh (lT ts)), some (to (ts ++ endsN d.toNat ts)), x3, x4] := by
    unfold sFor
    rw [src1_sh (us := iU (dueL d.toNat ts)) (ρ1 := [some (.sh (.int d)), some (.sh (lT ts)), some (to ts), none, none])]
    · exact e
    · generalize hq : mFrz _ _ = q
      generalize lT ts = u at *
      simp_arith only [frz_e, en, frzO, viewO_shs] at hq
      exact hq.symm
  have FS := fun ρ => fSort_t (ts := ts ++ endsN d.toNat ts) (ρ := ρ) (by
    rw [← mks_end d ts (by omega)]
    have := ml d.toNat (by omega)
    omega)
  have FL : ∀ ρ, fList [.sh (.list (tUs ts))] ρ = .ok (.ol (shs (tUs ts))) ρ := fun ρ => rfl
  generalize hq : m_marks_between _ = q
  unfold m_marks_between b_marks_between at hq
  simp_arith only [FL, S, FS] at hq
  exact hq.symm
theorem rngU_map (lo : Int) : ∀ n : Nat, rngU lo n = (List.range n).map fun i : Nat => PyData.int (lo + (i : Nat)) := fun n => by
  apply List.ext_getElem?
  intro i
  by_cases h : i < n
  · rw [List.getElem?_map, List.getElem?_range h]
    have hl : i < (rngU lo n).length := by rw [rngU_len]; exact h
    rw [List.getElem?_eq_getElem hl, rngU_get n i lo _ (List.getElem?_eq_getElem hl)]
    rfl
  · rw [List.getElem?_eq_none (by rw [rngU_len]; omega), List.getElem?_eq_none (by rw [List.length_map, List.length_range]; omega)]
theorem flU (d : Nat) : tUs (flN d) = (List.range d).map fun i : Nat => PyData.tuple [.int (1 + (i : Nat)), .int (1 + (i : Nat)), .int 0] := by
  unfold tUs flN
  rw [List.map_map]
  refine List.map_congr_left fun i _ => ?_
  show tU ((i : Int) + 1, (i : Int) + 1, 0) = _
  rw [show (i : Int) + 1 = 1 + (i : Int) by omega]
  rfl
theorem m_turn (x0 x1 x2 x3 x8 : Option O) (p l h w : Int) : b_is_marking_1 [x0, x1, x2, x3, some (.sh (.int p)), some (.sh (.int l)), some (.sh (.int h)), some (.sh (.int w)), x8] =
    if w = 0 then (if l = p + 1 then .nx [x0, x1, x2, x3, some (.sh (.int (p + 1))), some (.sh (.int l)), some (.sh (.int h)), some (.sh (.int w)), x8] else .rt (.sh (.bool false)) [x0, x1, x2, x3, some (.sh (.int p)), some (.sh (.int l)), some (.sh (.int h)), some (.sh (.int w)), x8])
    else (if l ≤ p ∧ p < h then .nx [x0, x1, x2, x3, some (.sh (.int p)), some (.sh (.int l)), some (.sh (.int h)), some (.sh (.int w)), x8] else .rt (.sh (.bool false)) [x0, x1, x2, x3, some (.sh (.int p)), some (.sh (.int l)), some (.sh (.int h)), some (.sh (.int w)), x8]) := by
  generalize hq : b_is_marking_1 _ = q
  unfold b_is_marking_1 at hq
  by_cases c0 : w = 0
  · rw [if_pos c0]
    by_cases c1 : l = p + 1
    · simp_arith only [c0, c1] at hq
      rw [if_pos c1, ← hq, c0, c1]
    · simp_arith only [c0, c1] at hq
      rw [if_neg c1, ← hq, c0]
  · rw [if_neg c0]
    by_cases c1 : l ≤ p
    · by_cases c2 : p < h
      · simp_arith only [c0, c1, c2] at hq
        rw [if_pos ⟨c1, c2⟩]; exact hq.symm
      · simp_arith only [c0, c1, c2] at hq
        rw [if_neg (fun z => c2 z.2)]; exact hq.symm
    · simp_arith only [c0, c1] at hq
      rw [if_neg (fun z => c1 z.1)]; exact hq.symm
theorem m_loop (x0 x1 x2 x3 x8 : Option O) : ∀ (M : List T3) (p : Int) (x5 x6 x7 : Option O), (walkM M p = true ∧ ∃ y4 y5 y6 y7, lpF (.tp [5, 6, 7]) b_is_marking_1 (tUs M) [x0, x1, x2, x3, some (.sh (.int p)), x5, x6, x7, x8] = .nx [x0, x1, x2, x3, y4, y5, y6, y7, x8]) ∨
    (walkM M p = false ∧ ∃ y4 y5 y6 y7, lpF (.tp [5, 6, 7]) b_is_marking_1 (tUs M) [x0, x1, x2, x3, some (.sh (.int p)), x5, x6, x7, x8] = .rt (.sh (.bool false)) [x0, x1, x2, x3, y4, y5, y6, y7, x8])
  | [], p, x5, x6, x7 => .inl ⟨rfl, _, _, _, _, rfl⟩
  | (l, h, w) :: M, p, x5, x6, x7 => by
    have B := m_turn x0 x1 x2 x3 x8 p l h w
    have G : lpF (.tp [5, 6, 7]) b_is_marking_1 (tUs ((l, h, w) :: M)) [x0, x1, x2, x3, some (.sh (.int p)), x5, x6, x7, x8] = lp2 (.tp [5, 6, 7]) b_is_marking_1 (tUs M) (b_is_marking_1 [x0, x1, x2, x3, some (.sh (.int p)), some (.sh (.int l)), some (.sh (.int h)), some (.sh (.int w)), x8]) := lp_go bind_t3
    rw [G, B]
    show (walkM ((l, h, w) :: M) p = true ∧ _) ∨ _
    unfold walkM
    simp only
    by_cases c0 : w = 0
    · rw [if_pos c0, if_pos c0]
      by_cases c1 : l = p + 1
      · rw [if_pos c1, if_pos c1]
        exact m_loop x0 x1 x2 x3 x8 M (p + 1) _ _ _
      · rw [if_neg c1, if_neg c1]
        exact .inr ⟨rfl, _, _, _, _, rfl⟩
    · rw [if_neg c0, if_neg c0]
      by_cases c1 : l ≤ p ∧ p < h
      · rw [if_pos c1, if_pos c1]
        exact m_loop x0 x1 x2 x3 x8 M p _ _ _
      · rw [if_neg c1, if_neg c1]
        exact .inr ⟨rfl, _, _, _, _, rfl⟩
theorem fl_lc3 (d : Int) (h1 : 1 ≤ d) (h2 : d ≤ 5) (x1 x2 x3 x4 x5 x6 x7 : Option O) : mLc (.nm 8) [8] (srcR [(.ex (mC (.int 1))), (.ex (mBin fAdd (.var 0) (.ex (mC (.int 1)))))]) bYes (mTup [(.ex (mVar 8)), (.ex (mVar 8)), (.ex (mC (.int 0)))]) [some (.sh (.int d)), x1, x2, x3, x4, x5, x6, x7, none] =
    .ok (to (flN d.toNat)) [some (.sh (.int d)), x1, x2, x3, x4, x5, x6, x7, none] := by
  show _ = MM.R.ok (O.ol (shs (tUs (flN d.toNat)))) _
  rw [flU]
  refine lc_mm (ρ1 := [some (.sh (.int d)), x1, x2, x3, x4, x5, x6, x7, none]) (ρw := [some (.sh (.int d)), x1, x2, x3, x4, x5, x6, x7, none]) (l := List.range d.toNat) (fun i : Nat => PyData.int (1 + (i : Nat))) _ ?_ (by rw [List.length_range]; omega) rfl ?_
  · have hr : rngF [1, d + 1] = some (rngU 1 d.toNat) := by
      rw [rng2, show d + 1 - 1 = d by omega]
      · decide
      · unfold near; simp only [Bool.and_eq_true, decide_eq_true_eq]; omega
    rw [← rngU_map]
    simp_arith only [hr]
  · intro i _
    refine ⟨_, rfl, [some (.sh (.int d)), x1, x2, x3, x4, x5, x6, x7, some (.sh (.int (1 + (i : Nat))))], ?_, rfl⟩
    simp_arith only [Nat.add_zero]
theorem add_oo (A B : List T3) (ρ : Ev) (h : A.length + B.length ≤ 16777216) : fAdd (.ol (shs (tUs A))) (.ol (shs (tUs B))) ρ = .ok (.ol (shs (tUs (A ++ B)))) ρ := by
  have a : intE (.ol (shs (tUs A))) = none := rfl
  have b : strE (.ol (shs (tUs A))) = none := rfl
  have hz : (tUs A).length + (tUs B).length ≤ 16777216 := by rw [tUs_len, tUs_len]; exact h
  simp only [fAdd, a, b, lstE, allSh_shs, if_pos hz]
  unfold tUs
  rw [List.map_append]
theorem is_marking_ok (d : Int) (D M : List T3) (h1 : 1 ≤ d) (h2 : d ≤ 5) (hl : D.length ≤ 1000) (hm : M.length ≤ 1000) (hg : ∀ t ∈ D, Gd d t) (hn : ∀ x ∈ dueL d.toNat D, 0 ≤ x) : m_is_marking [.sh (.int d), .sh (lT D), .sh (lT M)] = .ok (.sh (.bool (iM d D M))) [some (.sh (.int d)), some (.sh (lT D)), some (.sh (lT M))] := by
  have F := fl_lc3 d h1 h2
  have BT := between_ok d D h1 h2 hl hg hn
  have dn := nat_mem (d := d) (by omega)
  have le : (D ++ endsN d.toNat D).length ≤ 1300 := by
    rw [← mks_end d D (by omega)]
    have := mks_len d D (fun i hi => by have := due_le (d := d.toNat) (by rw [dn]; exact hg) hn i (by omega); omega) d.toNat (by omega)
    omega
  have lf : (flN d.toNat).length ≤ 5 := by unfold flN; rw [List.length_map, List.length_range]; omega
  have AD := fun ρ => add_oo (flN d.toNat) (sortT (D ++ endsN d.toNat D)) ρ (by rw [sortT_len]; omega)
  have S1 := fun ρ => fSort_s (ts := M) (ρ := ρ) (by omega)
  have S2 := fun ρ => fSort_t (ts := flN d.toNat ++ sortT (D ++ endsN d.toNat D)) (ρ := ρ) (by rw [List.length_append, sortT_len]; omega)
  rw [sortT_in] at S2
  have N := ne_oo (sortT M) (sortT (flN d.toNat ++ (D ++ endsN d.toNat D)))
  unfold iM
  generalize hq : m_is_marking _ = q
  unfold m_is_marking b_is_marking at hq
  by_cases c : sortT M = sortT (flN d.toNat ++ (D ++ endsN d.toNat D))
  · have N' : ∀ ρ, fNe (.ol (shs (tUs (sortT (flN d.toNat ++ (D ++ endsN d.toNat D)))))) (.ol (shs (tUs (sortT (flN d.toNat ++ (D ++ endsN d.toNat D)))))) ρ = .ok (.sh (.bool false)) ρ := fun ρ => ne_t1
    rw [decide_eq_true c, Bool.true_and]
    rcases m_loop (some (.sh (.int d))) (some (.sh (lT D))) (some (.sh (lT M))) (some (to (flN d.toNat))) none M 0 none none none with ⟨g, y4, y5, y6, y7, e⟩ | ⟨g, y4, y5, y6, y7, e⟩
    · rw [g]
      simp_arith only [F, BT, AD, S1, S2, c, N', forV_e, fv0_sh, e] at hq
      exact hq.symm
    · rw [g]
      simp_arith only [F, BT, AD, S1, S2, c, N', forV_e, fv0_sh, e] at hq
      exact hq.symm
  · rw [decide_eq_false c, Bool.false_and]
    simp_arith only [F, BT, AD, S1, S2, N, c] at hq
    exact hq.symm
end K76
set_option maxRecDepth 1000000
set_option maxHeartbeats 1000000
namespace K76
open PySem L2 MM Snd
local macro_rules
  | `(tactic| simp_arith only [$xs:simpLemma,*] $[$loc:location]?) => `(tactic| simp (config := {decide := true}) (disch := (first | assumption | decide | omega | (simp only [List.length_cons, List.length_nil, List.length_append]; omega))) only [$xs,*, f_mull, f_mulr, ev_var, ev_ex, agV_e, agE_o, agE_x, oo_v, oo_o, bin_e, bin1_o, bin2_o, bin3_o, un_e, un1_o, un2_o, evs_n, evs_c, evs1_o, evs2_o, oso_n, oso_c, osa_n, osa_c, osa1_o, omap_s, lst_e, lst1_o, lst2_o, tup_e, tup1_o, tup2_o, tup3_s, tup3_n, alls_n, alls_c, alls_l, alls_t, cb_e, cb1_o, cb2_o, call_e, call1_o, call2_o, call3_o, call3_x, take_n, take_v, take_o, tkO_sh, tkO_ol, tkO_ot, tkO_sc, put_n, put_o, put_v, ptO_n, ptO_s, call0_e, call01_o, runF_e, run1_r, run1_n, run1_x, outs_n, outs_t, outs_f, mv_e, mv1_sh, mv1_ol, mv1_ot, mv2_o, mt_e, mt1_sh, mt1_ol, mt1_ot, mC_e, asb_e, asb1_o, asb2_o, ble_b, tru_e, tru1_o, tru2_o, and_e, and1_t, and1_f, or_e, or1_t, or1_f, not_e, not1_o, vand_e, vand1_o, vand2_t, vand2_f, vor_e, vor1_o, vor2_t, vor2_f, vnot_e, vnot1_o, vnot2_o, ife_e, if1_t, if1_f,
  ch_e, ch0_o, ch1_o, ch2_o, ch3_t, ch3_f, ch4_o, cn_e, cn1_o, lk_one, lk_more, lk1_o, lk2_o, lk3_t, lk3_f, seq_e, seq1_n, seq1_r, seq1_b, seq1_c, seq1_x, set_e, set1_o, set1_x, drop_e, drop1_o, drop1_x, ret_e, ret1_o, ret1_x, retN_e, nil_e, brk_e, cnt_e, raise_e, sif_e, sif1_t, sif1_f, aug_e, unp_e, unp1_o, unp2_o, unp3_o, unpE_ol, unpE_ot, unpE_tu, unpE_li, shs_n, shs_c, sal_n, sal_c, par_e, par1_o, par2_o, for_e, for1_o, lp_n, lp1_o, lp2_n, lp2_c, lp2_b, lp2_r, lp2_x, bind_nm, bind_tt, bind_tl, sr_e, sr1_o, sr2_o, sr3_o, inO_n, inO_c, f_sub, f_add, f_lt, f_le, f_gt, f_ge, f_eq, f_ne, f_neg, f_mod, f_div, f_pow, f_abs, f_len, f_lensc, f_lenl, f_lent, f_max2, f_min2, f_isi_ii, f_isi_ib, tr_b, tr_i, idx_e, idx1_o, at_l, at_t, at_ol, at_ot, at_sc, at_0, at_1, at_2, at_3, at_4, at_5, at_n, shE_s, decide_true, decide_false, mth_e, mth1_o, mth2_o, mth3_o, mth4_o, app_e, clr_e, tn0, tn1, tn2, tn3, tn4, tn5, tn6, tn7, tn8, tn9, tn10, tn11, tn12, at_6, at_7, at_8, at_9, at_10, at_11, at_12, while_e, evB_n, evB_s, eb1_o, eb2_o, sl_e, sl0_o, sl1_o, sl2_o, sl3_o, fSl_sh, fSl_ol, sa_e, sa1_v, sa1_o, sa2_o, itU_l, itU_t, fLi_sh, fLi_tu, fLi_ol, f_sum, f_sumo, rev_sh, rev_ol, isi_lst_l, isi_lst_o, isi_tup_t, fEq_nil, fEq_nilo, viewO_shs, shs_len, iU_len, ax_e, axB_o, ax0_o, ax1_o, ax2_o, ax3_o, ax4_o, ax5_o, at_t0, at_t1, at_t2, bind_t3, omap_n, f_addI, par3_e, par30_o, par31_o, mp_e, pmB_l, pmB_t, pmA_o, pm0_l, pm0_t, pm1_o, pm2_o, pm3_o, pm4_o, bor_e, borT_e, borO_o, borB_o, borO_x, borB_x, vwE_n, vwE_c, vw1_n, vw1_s, vw1_sc, vw1_ol, vw1_ot, vO_s, vO_l, vO_t, vOs_n, vOs_c, vcons_o, frz_e, frzO_o, frz2_o, frzO_x, try_e, try1_n, try1_r, try1_x, tryH_s, lkH, clr_r, clr_n, six_e, six0_o, six01_o, pix_e, pix1_o, pix2_o, ixN_l, six1_o, six2_o, bin1_x, bin2_x, un1_x, evs1_x, evs2_x, cb1_x, call1_x, lst1_x, tup1_x, f_maxD, fNe_nilo, eq_t1, eq_t2, eq_t3, eq_t4, eq_i1, eq_i2, eq_i3, eq_i4, viewOs_shs, ne_i1, ne_i2, ne_i3, ne_i4, ne_t1, ne_t2, ne_t3, ne_t4, ne_b, all_tt, isi_bl_b, forV_e, fv0_ol, fv0_sh, nl0_e, nl1_e, nla_o, nlb_o, nlit_s, keO_y, scO_i, nset_e, nst_o, nset0_e, nset1_o, nset2_s, npix_e, ndAt_y, nget_e, ng0_s, nget1_o, ng1_o, nget2_e, ng2_s, nget3_s, ndO_y, f_lenN, f_keysN, srcIt_e, nwO_y, si1_s, f_intb, f_inti, fTup_sh, fTup_ol, mt1_nd, tkO_nd, nix_e, nin_e, srcKy_e, sky_d, sky_f, nixf_e, src2X_e, s2a_o, s2b_s, sqB_l, sqB_u, zipX_ll, zipX_lt, zipX_tl,
  List.map_cons, List.map_nil, List.cons_append, List.nil_append, List.append_nil, List.replicate_succ, List.replicate_zero, List.getElem?_cons_zero, List.getElem?_cons_succ, List.getElem?_nil, List.set_cons_zero, List.set_cons_succ, List.set_nil, List.length_cons, List.length_nil, Option.getD_some, Option.getD_none, Option.bind_some, Option.some.injEq, reduceIte, Bool.not_true, Bool.not_false, intE] $[$loc]?)
theorem lg64 {m : Int} (h : m.natAbs < 2 ^ 64) : m.natAbs.log2 < 9000 := by
  by_cases z : m.natAbs = 0
  · rw [z, Nat.log2_zero]; omega
  · have := (Nat.log2_lt z).mpr h
    omega
theorem rng_n {x : Int} (n : Nat) (e : x = n) (h : n ≤ 1000) : rngF [x] = some (rngU 0 n) := by
  subst e
  rw [rng1]
  · rfl
  · unfold near; simp only [Bool.and_eq_true, decide_eq_true_eq]; omega
theorem rng_2 {x y : Int} (n : Nat) (e : (y - x).toNat = n) (h0 : -1000 ≤ x) (h : x ≤ 1000) (h1 : -1000 ≤ y) (h2 : y ≤ 1000) : rngF [x, y] = some (rngU x n) := by
  rw [rng2, e]
  · unfold near; simp only [Bool.and_eq_true, decide_eq_true_eq]; omega
  · unfold near; simp only [Bool.and_eq_true, decide_eq_true_eq]; omega
def DrO (ts : List T3) (x : O) : Prop := x = to ts ∨ x = .sh (.list (tUs ts))
theorem mk_lc (d fl : Int) (ts : List T3) (hl : ts.length ≤ 1000) (x1 : O) (h1 : DrO ts x1) (x2 x4 x5 : Option O) (j : Nat) (i : Int) (hj : j = 0 ∧ i = 0 ∨ j = 1 ∧ i = 1) : mLc (.nm 6) [6] (srcA (.ex (mVar 1))) (asB (mBin fEq (.ex (mBin fIdx (.var 6) (.ex (mC (.int i))))) (.var 3))) (mBin fIdx (.var 6) (.ex (mC (.int 2)))) [some (.sh (.int d)), some x1, x2, some (.sh (.int fl)), x4, x5, none] =
    .ok (.ol (shs (iU ((ts.filter fun t => (if j = 0 then t.1 else t.2.1) == fl).map (·.2.2))))) [some (.sh (.int d)), some (.sh (.list (tUs ts))), x2, some (.sh (.int fl)), x4, x5, none] := by
  rw [← map_iU]
  refine lc_fmm (ρ1 := [some (.sh (.int d)), some (.sh (.list (tUs ts))), x2, some (.sh (.int fl)), x4, x5, none]) (ρw := [some (.sh (.int d)), some (.sh (.list (tUs ts))), x2, some (.sh (.int fl)), x4, x5, none]) (l := ts) tU (fun t => .int t.2.2) (fun t => (if j = 0 then t.1 else t.2.1) == fl) ?_ (by omega) rfl ?_
  · rcases h1 with rfl | rfl
    · simp_arith only [tb]
      rfl
    · rfl
  · intro t ht
    obtain ⟨l, h, w⟩ := t
    refine ⟨[some (.sh (.int d)), some (.sh (.list (tUs ts))), x2, some (.sh (.int fl)), x4, x5, some (.sh (tU (l, h, w)))], rfl, [some (.sh (.int d)), some (.sh (.list (tUs ts))), x2, some (.sh (.int fl)), x4, x5, some (.sh (tU (l, h, w)))], ?_, fun _ => rfl, fun _ => ⟨[some (.sh (.int d)), some (.sh (.list (tUs ts))), x2, some (.sh (.int fl)), x4, x5, some (.sh (tU (l, h, w)))], ?_, rfl⟩⟩
    · rcases hj with ⟨rfl, rfl⟩ | ⟨rfl, rfl⟩
      · simp_arith only [tb]
        rfl
      · simp_arith only [tb]
        rfl
    · simp_arith only [tb]
theorem mk_in (d fl : Int) (x1 x4 : Option O) (hd : d ≤ 60) : ∀ (n : Nat) (us : List T3) (j : Int) (x5 : Option O), us.length + n ≤ 100000 → ∃ y5, lpF (.nm 5) b__law_marks_1 (rngU j n) [some (.sh (.int d)), x1, some (to us), some (.sh (.int fl)), x4, x5, none] = .nx [some (.sh (.int d)), x1, some (to (us ++ List.replicate n (fl, d + 1, 1))), some (.sh (.int fl)), x4, y5, none]
  | 0, us, j, x5, _ => ⟨x5, by rw [List.replicate_zero, List.append_nil]; rfl⟩
  | n + 1, us, j, x5, hn => by
    obtain ⟨y5, ih⟩ := mk_in d fl x1 x4 hd n (us ++ [(fl, d + 1, 1)]) (j + 1) (some (.sh (.int j))) (by rw [List.length_append, List.length_singleton]; omega)
    refine ⟨y5, ?_⟩
    have z1 : (shs (tUs us)).length < 16777216 := by rw [shs_len, tUs_len]; omega
    have B : b__law_marks_1 [some (.sh (.int d)), x1, some (to us), some (.sh (.int fl)), x4, some (.sh (.int j)), none] = .nx [some (.sh (.int d)), x1, some (to (us ++ [(fl, d + 1, 1)])), some (.sh (.int fl)), x4, some (.sh (.int j)), none] := by
      generalize hq : b__law_marks_1 _ = q
      unfold b__law_marks_1 at hq
      simp_arith only [tUs_len, tUs_snoc] at hq
      exact hq.symm
    show lpF _ _ (.int j :: rngU (j + 1) n) _ = _
    rw [lp_go (ρ1 := [some (.sh (.int d)), x1, some (to us), some (.sh (.int fl)), x4, some (.sh (.int j)), none]) rfl, B, lp2_n, ih, List.append_assoc]
    rfl
theorem mks_lenF (d : Int) (ts : List T3) (hs : ∀ f : Int, 1 ≤ f → f ≤ d → dueZ ts f ≤ 60) : ∀ k : Nat, (k : Int) ≤ d → (mks d ts k).length ≤ ts.length + 60 * k
  | 0, _ => by unfold mks; simp
  | k + 1, h => by
    have ih := mks_lenF d ts hs k (by omega)
    have := hs ((k : Int) + 1) (by omega) (by omega)
    rw [mks_succ, List.length_append, List.length_replicate]
    omega
theorem mk_out (d : Int) (ts : List T3) (hd : d ≤ 60) (hl : ts.length ≤ 1000) (hn : ∀ f : Int, 1 ≤ f → f ≤ d → 0 ≤ dueZ ts f ∧ dueZ ts f ≤ 60) : ∀ (n k : Nat) (x1 : O) (x3 x4 x5 : Option O), ((k + n : Nat) : Int) = d → DrO ts x1 → ∃ y1 y3 y4 y5, DrO ts y1 ∧ (0 < n → y1 = .sh (.list (tUs ts))) ∧ lpF (.nm 3) b__law_marks_2 (rngU ((k : Int) + 1) n) [some (.sh (.int d)), some x1, some (to (mks d ts k)), x3, x4, x5, none] = .nx [some (.sh (.int d)), some y1, some (to (mks d ts (k + n))), y3, y4, y5, none]
  | 0, k, x1, x3, x4, x5, hk, h1 => ⟨x1, x3, x4, x5, h1, fun z => absurd z (Nat.lt_irrefl _), rfl⟩
  | n + 1, k, x1, x3, x4, x5, hk, h1 => by
    obtain ⟨z5, E⟩ := mk_in d ((k : Int) + 1) (some (.sh (.list (tUs ts)))) (some (.sh (.int (dueZ ts ((k : Int) + 1))))) hd (dueZ ts ((k : Int) + 1)).toNat (mks d ts k) 0 x5 (by
        have := mks_lenF d ts (fun f a b => (hn f a b).2) k (by omega)
        have := hn ((k : Int) + 1) (by omega) (by omega)
        omega)
    obtain ⟨y1, y3, y4, y5, q1, q2, ih⟩ := mk_out d ts hd hl hn n (k + 1) (.sh (.list (tUs ts))) (some (.sh (.int ((k : Int) + 1)))) (some (.sh (.int (dueZ ts ((k : Int) + 1))))) z5 (by omega) (.inr rfl)
    obtain ⟨n1, n2⟩ := hn ((k : Int) + 1) (by omega) (by omega)
    refine ⟨y1, y3, y4, y5, q1, fun _ => ?_, ?_⟩
    · by_cases z : 0 < n
      · exact q2 z
      · have : n = 0 := by omega
        subst this
        obtain ⟨z1, z3, z4, z5, r1, r2, ih2⟩ := mk_out d ts hd hl hn 0 (k + 1) (.sh (.list (tUs ts))) none none none (by omega) (.inr rfl)
        have e : lpF (.nm 3) b__law_marks_2 (rngU (((k + 1 : Nat) : Int) + 1) 0) _ = _ := ih
        have e2 : ∀ ρ, lpF (.nm 3) b__law_marks_2 (rngU (((k + 1 : Nat) : Int) + 1) 0) ρ = .nx ρ := fun ρ => rfl
        rw [e2] at e
        injection e with e
        injection e with _ e
        injection e with e _
        injection e with e
        exact e.symm
    · have C1 : ∀ x2 x4 : Option O, mLc (.nm 6) [6] (srcA (.ex (mVar 1))) (asB (mBin fEq (.ex (mBin fIdx (.var 6) (.ex (mC (.int 1))))) (.var 3))) (mBin fIdx (.var 6) (.ex (mC (.int 2)))) [some (.sh (.int d)), some x1, x2, some (.sh (.int ((k : Int) + 1))), x4, x5, none] = .ok (.ol (shs (iU ((ts.filter fun t => t.2.1 == (k : Int) + 1).map (·.2.2))))) [some (.sh (.int d)), some (.sh (.list (tUs ts))), x2, some (.sh (.int ((k : Int) + 1))), x4, x5, none] := fun x2 x4 => mk_lc d ((k : Int) + 1) ts hl x1 h1 x2 x4 x5 1 1 (.inr ⟨rfl, rfl⟩)
      have C0 : ∀ x2 x4 : Option O, mLc (.nm 6) [6] (srcA (.ex (mVar 1))) (asB (mBin fEq (.ex (mBin fIdx (.var 6) (.ex (mC (.int 0))))) (.var 3))) (mBin fIdx (.var 6) (.ex (mC (.int 2)))) [some (.sh (.int d)), some (.sh (.list (tUs ts))), x2, some (.sh (.int ((k : Int) + 1))), x4, x5, none] = .ok (.ol (shs (iU ((ts.filter fun t => t.1 == (k : Int) + 1).map (·.2.2))))) [some (.sh (.int d)), some (.sh (.list (tUs ts))), x2, some (.sh (.int ((k : Int) + 1))), x4, x5, none] := fun x2 x4 => mk_lc d ((k : Int) + 1) ts hl (.sh (.list (tUs ts))) (.inr rfl) x2 x4 x5 0 0 (.inl ⟨rfl, rfl⟩)
      have eD : 1 + sumL ((ts.filter fun t => t.2.1 == (k : Int) + 1).map (·.2.2)) - sumL ((ts.filter fun t => t.1 == (k : Int) + 1).map (·.2.2)) = dueZ ts ((k : Int) + 1) := rfl
      have R := rng_n (x := dueZ ts ((k : Int) + 1)) (dueZ ts ((k : Int) + 1)).toNat (by omega) (by omega)
      have B : b__law_marks_2 [some (.sh (.int d)), some x1, some (to (mks d ts k)), some (.sh (.int ((k : Int) + 1))), x4, x5, none] = .nx [some (.sh (.int d)), some (.sh (.list (tUs ts))), some (to (mks d ts (k + 1))), some (.sh (.int ((k : Int) + 1))), some (.sh (.int (dueZ ts ((k : Int) + 1)))), z5, none] := by
        rw [mks_succ]
        generalize hq : b__law_marks_2 _ = q
        unfold b__law_marks_2 at hq
        simp_arith only [C1, C0, eD, R, E] at hq
        exact hq.symm
      show lpF _ _ (.int ((k : Int) + 1) :: rngU ((k : Int) + 1 + 1) n) _ = _
      rw [lp_go (ρ1 := [some (.sh (.int d)), some x1, some (to (mks d ts k)), some (.sh (.int ((k : Int) + 1))), x4, x5, none]) rfl, B, lp2_n, show k + (n + 1) = k + 1 + n by omega]
      exact ih
theorem marks_ok (d : Int) (ts : List T3) (h1 : 1 ≤ d) (h2 : d ≤ 5) (hl : ts.length ≤ 1000) (hn : ∀ f : Int, 1 ≤ f → f ≤ d → 0 ≤ dueZ ts f ∧ dueZ ts f ≤ 60) : m__law_marks [.sh (.int d), .sh (lT ts)] = .ok (to (ts ++ endsN d.toNat ts)) [some (.sh (.int d)), some (.sh (lT ts))] := by
  have ed : ((d.toNat : Nat) : Int) = d := Int.toNat_of_nonneg (by omega)
  have em : ts ++ endsN d.toNat ts = mks d ts d.toNat := by
    unfold mks endsN
    rw [ed]
  rw [em]
  obtain ⟨y1, y3, y4, y5, _, q2, e⟩ := mk_out d ts (by omega) hl hn d.toNat 0 (.sh (lT ts)) none none none (by omega) (.inr rfl)
  rw [q2 (by omega), Nat.zero_add] at e
  have e' : lpF (.nm 3) b__law_marks_2 (rngU 1 d.toNat) [some (.sh (.int d)), some (.sh (.list (tUs ts))), some (.ol (shs (tUs ts))), none, none, none, none] = .nx [some (.sh (.int d)), some (.sh (.list (tUs ts))), some (.ol (shs (tUs (mks d ts d.toNat)))), y3, y4, y5, none] := by
    have : mks d ts 0 = ts := by unfold mks; simp
    rw [this] at e
    exact e
  have R := rng_2 (x := 1) (y := d + 1) d.toNat (by omega) (by omega) (by omega) (by omega) (by omega)
  have FL : ∀ ρ, fList [.sh (.list (tUs ts))] ρ = .ok (.ol (shs (tUs ts))) ρ := fun ρ => rfl
  generalize hq : m__law_marks _ = q
  unfold m__law_marks b__law_marks at hq
  unfold lT at *
  simp_arith only [FL, R, e'] at hq
  exact hq.symm

end K76
set_option maxRecDepth 1000000
set_option maxHeartbeats 1000000
namespace K76
open PySem L2 MM Snd
local macro_rules
  | `(tactic| simp_arith only [$xs:simpLemma,*] $[$loc:location]?) => `(tactic| simp (config := {decide := true}) (disch := (first | assumption | decide | omega | (simp only [List.length_cons, List.length_nil, List.length_append]; omega))) only [$xs,*, f_mull, f_mulr, ev_var, ev_ex, agV_e, agE_o, agE_x, oo_v, oo_o, bin_e, bin1_o, bin2_o, bin3_o, un_e, un1_o, un2_o, evs_n, evs_c, evs1_o, evs2_o, oso_n, oso_c, osa_n, osa_c, osa1_o, omap_s, lst_e, lst1_o, lst2_o, tup_e, tup1_o, tup2_o, tup3_s, tup3_n, alls_n, alls_c, alls_l, alls_t, cb_e, cb1_o, cb2_o, call_e, call1_o, call2_o, call3_o, call3_x, take_n, take_v, take_o, tkO_sh, tkO_ol, tkO_ot, tkO_sc, put_n, put_o, put_v, ptO_n, ptO_s, call0_e, call01_o, runF_e, run1_r, run1_n, run1_x, outs_n, outs_t, outs_f, mv_e, mv1_sh, mv1_ol, mv1_ot, mv2_o, mt_e, mt1_sh, mt1_ol, mt1_ot, mC_e, asb_e, asb1_o, asb2_o, ble_b, tru_e, tru1_o, tru2_o, and_e, and1_t, and1_f, or_e, or1_t, or1_f, not_e, not1_o, vand_e, vand1_o, vand2_t, vand2_f, vor_e, vor1_o, vor2_t, vor2_f, vnot_e, vnot1_o, vnot2_o, ife_e, if1_t, if1_f,
  ch_e, ch0_o, ch1_o, ch2_o, ch3_t, ch3_f, ch4_o, cn_e, cn1_o, lk_one, lk_more, lk1_o, lk2_o, lk3_t, lk3_f, seq_e, seq1_n, seq1_r, seq1_b, seq1_c, seq1_x, set_e, set1_o, set1_x, drop_e, drop1_o, drop1_x, ret_e, ret1_o, ret1_x, retN_e, nil_e, brk_e, cnt_e, raise_e, sif_e, sif1_t, sif1_f, aug_e, unp_e, unp1_o, unp2_o, unp3_o, unpE_ol, unpE_ot, unpE_tu, unpE_li, shs_n, shs_c, sal_n, sal_c, par_e, par1_o, par2_o, for_e, for1_o, lp_n, lp1_o, lp2_n, lp2_c, lp2_b, lp2_r, lp2_x, bind_nm, bind_tt, bind_tl, sr_e, sr1_o, sr2_o, sr3_o, inO_n, inO_c, f_sub, f_add, f_lt, f_le, f_gt, f_ge, f_eq, f_ne, f_neg, f_mod, f_div, f_pow, f_abs, f_len, f_lensc, f_lenl, f_lent, f_max2, f_min2, f_isi_ii, f_isi_ib, tr_b, tr_i, idx_e, idx1_o, at_l, at_t, at_ol, at_ot, at_sc, at_0, at_1, at_2, at_3, at_4, at_5, at_n, shE_s, decide_true, decide_false, mth_e, mth1_o, mth2_o, mth3_o, mth4_o, app_e, clr_e, tn0, tn1, tn2, tn3, tn4, tn5, tn6, tn7, tn8, tn9, tn10, tn11, tn12, at_6, at_7, at_8, at_9, at_10, at_11, at_12, while_e, evB_n, evB_s, eb1_o, eb2_o, sl_e, sl0_o, sl1_o, sl2_o, sl3_o, fSl_sh, fSl_ol, sa_e, sa1_v, sa1_o, sa2_o, itU_l, itU_t, fLi_sh, fLi_tu, fLi_ol, f_sum, f_sumo, rev_sh, rev_ol, isi_lst_l, isi_lst_o, isi_tup_t, fEq_nil, fEq_nilo, viewO_shs, shs_len, iU_len, ax_e, axB_o, ax0_o, ax1_o, ax2_o, ax3_o, ax4_o, ax5_o, at_t0, at_t1, at_t2, bind_t3, omap_n, f_addI, par3_e, par30_o, par31_o, mp_e, pmB_l, pmB_t, pmA_o, pm0_l, pm0_t, pm1_o, pm2_o, pm3_o, pm4_o, bor_e, borT_e, borO_o, borB_o, borO_x, borB_x, vwE_n, vwE_c, vw1_n, vw1_s, vw1_sc, vw1_ol, vw1_ot, vO_s, vO_l, vO_t, vOs_n, vOs_c, vcons_o, frz_e, frzO_o, frz2_o, frzO_x, try_e, try1_n, try1_r, try1_x, tryH_s, lkH, clr_r, clr_n, six_e, six0_o, six01_o, pix_e, pix1_o, pix2_o, ixN_l, six1_o, six2_o, bin1_x, bin2_x, un1_x, evs1_x, evs2_x, cb1_x, call1_x, lst1_x, tup1_x, f_maxD, fNe_nilo, eq_t1, eq_t2, eq_t3, eq_t4, eq_i1, eq_i2, eq_i3, eq_i4, viewOs_shs, ne_i1, ne_i2, ne_i3, ne_i4, ne_t1, ne_t2, ne_t3, ne_t4, ne_b, all_tt, isi_bl_b, forV_e, fv0_ol, fv0_sh, nl0_e, nl1_e, nla_o, nlb_o, nlit_s, keO_y, scO_i, nset_e, nst_o, nset0_e, nset1_o, nset2_s, npix_e, ndAt_y, nget_e, ng0_s, nget1_o, ng1_o, nget2_e, ng2_s, nget3_s, ndO_y, f_lenN, f_keysN, srcIt_e, nwO_y, si1_s, f_intb, f_inti, fTup_sh, fTup_ol, mt1_nd, tkO_nd, nix_e, nin_e, srcKy_e, sky_d, sky_f, nixf_e, src2X_e, s2a_o, s2b_s, sqB_l, sqB_u, zipX_ll, zipX_lt, zipX_tl,
  List.map_cons, List.map_nil, List.cons_append, List.nil_append, List.append_nil, List.replicate_succ, List.replicate_zero, List.getElem?_cons_zero, List.getElem?_cons_succ, List.getElem?_nil, List.set_cons_zero, List.set_cons_succ, List.set_nil, List.length_cons, List.length_nil, Option.getD_some, Option.getD_none, Option.bind_some, Option.some.injEq, reduceIte, Bool.not_true, Bool.not_false, intE] $[$loc]?)
theorem r_turn (d k : Int) (x0 x3 x4 x9 x10 x11 : Option O) (ts : List T3) (l h w : Int) (h1 : 1 ≤ d) : b__law_is_right_1 [x0, some (.sh (.int d)), some (.sh (.int k)), x3, x4, some (.ol (shs (iU (dueL d.toNat ts)))), some (.sh (.int l)), some (.sh (.int h)), some (.sh (.int w)), x9, x10, x11] =
    if goodB d (l, h, w) = true then .nx [x0, some (.sh (.int d)), some (.sh (.int k)), x3, x4, some (.ol (shs (iU (dueL d.toNat (ts ++ [(l, h, w)]))))), some (.sh (.int l)), some (.sh (.int h)), some (.sh (.int w)), x9, x10, x11]
    else .rt (.sh (.bool false)) [x0, some (.sh (.int d)), some (.sh (.int k)), x3, x4, some (.ol (shs (iU (dueL d.toNat ts)))), some (.sh (.int l)), some (.sh (.int h)), some (.sh (.int w)), x9, x10, x11] := by
  unfold goodB
  generalize hq : b__law_is_right_1 _ = q
  unfold b__law_is_right_1 at hq
  simp only [decide_eq_true_eq]
  by_cases c1 : 1 ≤ l
  · by_cases c2 : l < h
    · by_cases c3 : h ≤ d
      · by_cases c4 : w < 1
        · simp_arith only [c1, c2, c3, c4] at hq
          rw [if_neg (by omega)]; exact hq.symm
        · have A1 : at' (shs (iU (dueL d.toNat ts))) (l - 1) = some (.sh (.int (dueZ ts l))) := so_at (by omega) (dueL_at c1 (by omega))
          have I1 : ixN d.toNat (l - 1) = some (l - 1).toNat := ixN_l (by omega) (by omega)
          have A2 : at' (shs (iU ((dueL d.toNat ts).set (l - 1).toNat (dueZ ts l - w)))) (h - 1) = some (.sh (.int (dueZ ts h))) := so_at (by omega) (dueL_snoc_at c1 (by omega) (by omega))
          have I2 : ixN d.toNat (h - 1) = some (h - 1).toNat := ixN_l (by omega) (by omega)
          have E5 : ((dueL d.toNat ts).set (l - 1).toNat (dueZ ts l - w)).set (h - 1).toNat (dueZ ts h + w) = dueL d.toNat (ts ++ [(l, h, w)]) := (dueL_snoc c1 c2 (by omega)).symm
          simp_arith only [c1, c2, c3, c4, A1, I1, A2, I2, E5, so_set, List.length_set, dueL_len] at hq
          rw [if_pos (by omega)]; exact hq.symm
      · simp_arith only [c1, c2, c3] at hq
        rw [if_neg (by omega)]; exact hq.symm
    · simp_arith only [c1, c2] at hq
      rw [if_neg (by omega)]; exact hq.symm
  · simp_arith only [c1] at hq
    rw [if_neg (by omega)]; exact hq.symm
theorem r_loop (d k : Int) (x0 x3 x4 x9 x10 x11 : Option O) (h1 : 1 ≤ d) : ∀ (D ts : List T3) (x6 x7 x8 : Option O), (D.all (goodB d) = true ∧ ∃ y6 y7 y8, lpF (.tp [6, 7, 8]) b__law_is_right_1 (tUs D) [x0, some (.sh (.int d)), some (.sh (.int k)), x3, x4, some (.ol (shs (iU (dueL d.toNat ts)))), x6, x7, x8, x9, x10, x11] = .nx [x0, some (.sh (.int d)), some (.sh (.int k)), x3, x4, some (.ol (shs (iU (dueL d.toNat (ts ++ D))))), y6, y7, y8, x9, x10, x11]) ∨
    (D.all (goodB d) = false ∧ ∃ y5 y6 y7 y8, lpF (.tp [6, 7, 8]) b__law_is_right_1 (tUs D) [x0, some (.sh (.int d)), some (.sh (.int k)), x3, x4, some (.ol (shs (iU (dueL d.toNat ts)))), x6, x7, x8, x9, x10, x11] = .rt (.sh (.bool false)) [x0, some (.sh (.int d)), some (.sh (.int k)), x3, x4, y5, y6, y7, y8, x9, x10, x11])
  | [], ts, x6, x7, x8 => .inl ⟨rfl, x6, x7, x8, by rw [List.append_nil]; rfl⟩
  | (l, h, w) :: D, ts, x6, x7, x8 => by
    have B := r_turn d k x0 x3 x4 x9 x10 x11 ts l h w h1
    have G : lpF (.tp [6, 7, 8]) b__law_is_right_1 (tUs ((l, h, w) :: D)) [x0, some (.sh (.int d)), some (.sh (.int k)), x3, x4, some (.ol (shs (iU (dueL d.toNat ts)))), x6, x7, x8, x9, x10, x11] = lp2 (.tp [6, 7, 8]) b__law_is_right_1 (tUs D) (b__law_is_right_1 [x0, some (.sh (.int d)), some (.sh (.int k)), x3, x4, some (.ol (shs (iU (dueL d.toNat ts)))), some (.sh (.int l)), some (.sh (.int h)), some (.sh (.int w)), x9, x10, x11]) := lp_go bind_t3
    rw [G, B, List.all_cons]
    cases c : goodB d (l, h, w) with
    | true =>
      rw [if_pos rfl, Bool.true_and, lp2_n]
      have ih := r_loop d k x0 x3 x4 x9 x10 x11 h1 D (ts ++ [(l, h, w)]) (some (.sh (.int l))) (some (.sh (.int h))) (some (.sh (.int w)))
      rw [List.append_assoc] at ih
      exact ih
    | false =>
      rw [if_neg Bool.false_ne_true, Bool.false_and, lp2_r]
      exact .inr ⟨rfl, _, _, _, _, rfl⟩
theorem r2_turn (x0 x1 x2 x3 x4 x5 x9 x11 : Option O) (p l h w : Int) (hw : 0 ≤ w) : b__law_is_right_2 [x0, x1, x2, x3, x4, x5, some (.sh (.int l)), some (.sh (.int h)), some (.sh (.int w)), x9, some (.sh (.int p)), x11] =
    if w = 0 then (if l = p + 1 then .nx [x0, x1, x2, x3, x4, x5, some (.sh (.int l)), some (.sh (.int h)), some (.sh (.int w)), x9, some (.sh (.int (p + 1))), x11] else .rt (.sh (.bool false)) [x0, x1, x2, x3, x4, x5, some (.sh (.int l)), some (.sh (.int h)), some (.sh (.int w)), x9, some (.sh (.int p)), x11])
    else (if l ≤ p ∧ p < h then .nx [x0, x1, x2, x3, x4, x5, some (.sh (.int l)), some (.sh (.int h)), some (.sh (.int w)), x9, some (.sh (.int p)), x11] else .rt (.sh (.bool false)) [x0, x1, x2, x3, x4, x5, some (.sh (.int l)), some (.sh (.int h)), some (.sh (.int w)), x9, some (.sh (.int p)), x11]) := by
  generalize hq : b__law_is_right_2 _ = q
  unfold b__law_is_right_2 at hq
  by_cases c0 : w = 0
  · rw [if_pos c0]
    have cg : ¬ (0 : Int) < 0 := by decide
    by_cases c1 : l = p + 1
    · simp_arith only [c0, c1, f_intb] at hq
      rw [if_pos c1, ← hq, c0, c1]
    · simp_arith only [c0, c1, f_intb] at hq
      rw [if_neg c1, ← hq, c0]
  · rw [if_neg c0]
    have cp : 0 < w := by omega
    have p0 : p + 0 = p := Int.add_zero p
    by_cases c1 : l ≤ p
    · by_cases c2 : p < h
      · simp_arith only [c0, c1, c2, cp, f_intb, Bool.false_eq_true, if_false, p0] at hq
        rw [if_pos ⟨c1, c2⟩]; exact hq.symm
      · simp_arith only [c0, c1, c2, cp, f_intb] at hq
        rw [if_neg (fun z => c2 z.2)]; exact hq.symm
    · simp_arith only [c0, c1, cp, f_intb] at hq
      rw [if_neg (fun z => c1 z.1)]; exact hq.symm
theorem r2_loop (x0 x1 x2 x3 x4 x5 x9 x11 : Option O) : ∀ (M : List T3) (p : Int) (x6 x7 x8 : Option O), (∀ t ∈ M, 0 ≤ t.2.2) → (walkM M p = true ∧ ∃ y6 y7 y8 y10, lpF (.tp [6, 7, 8]) b__law_is_right_2 (tUs M) [x0, x1, x2, x3, x4, x5, x6, x7, x8, x9, some (.sh (.int p)), x11] = .nx [x0, x1, x2, x3, x4, x5, y6, y7, y8, x9, y10, x11]) ∨
    (walkM M p = false ∧ ∃ y6 y7 y8 y10, lpF (.tp [6, 7, 8]) b__law_is_right_2 (tUs M) [x0, x1, x2, x3, x4, x5, x6, x7, x8, x9, some (.sh (.int p)), x11] = .rt (.sh (.bool false)) [x0, x1, x2, x3, x4, x5, y6, y7, y8, x9, y10, x11])
  | [], p, x6, x7, x8, _ => .inl ⟨rfl, _, _, _, _, rfl⟩
  | (l, h, w) :: M, p, x6, x7, x8, hw => by
    have B := r2_turn x0 x1 x2 x3 x4 x5 x9 x11 p l h w (hw _ List.mem_cons_self)
    have hw' : ∀ t ∈ M, 0 ≤ t.2.2 := fun t ht => hw t (List.mem_cons_of_mem _ ht)
    have G : lpF (.tp [6, 7, 8]) b__law_is_right_2 (tUs ((l, h, w) :: M)) [x0, x1, x2, x3, x4, x5, x6, x7, x8, x9, some (.sh (.int p)), x11] = lp2 (.tp [6, 7, 8]) b__law_is_right_2 (tUs M) (b__law_is_right_2 [x0, x1, x2, x3, x4, x5, some (.sh (.int l)), some (.sh (.int h)), some (.sh (.int w)), x9, some (.sh (.int p)), x11]) := lp_go bind_t3
    rw [G, B]
    show (walkM ((l, h, w) :: M) p = true ∧ _) ∨ _
    unfold walkM
    simp only
    by_cases c0 : w = 0
    · rw [if_pos c0, if_pos c0]
      by_cases c1 : l = p + 1
      · rw [if_pos c1, if_pos c1]
        exact r2_loop x0 x1 x2 x3 x4 x5 x9 x11 M (p + 1) _ _ _ hw'
      · rw [if_neg c1, if_neg c1]
        exact .inr ⟨rfl, _, _, _, _, rfl⟩
    · rw [if_neg c0, if_neg c0]
      by_cases c1 : l ≤ p ∧ p < h
      · rw [if_pos c1, if_pos c1]
        exact r2_loop x0 x1 x2 x3 x4 x5 x9 x11 M p _ _ _ hw'
      · rw [if_neg c1, if_neg c1]
        exact .inr ⟨rfl, _, _, _, _, rfl⟩
theorem fl_lc11 (d : Int) (h1 : 1 ≤ d) (h2 : d ≤ 5) (x0 x2 x3 x4 x5 x6 x7 x8 x9 x10 : Option O) : mLc (.nm 11) [11] (srcR [(.ex (mC (.int 1))), (.ex (mBin fAdd (.var 1) (.ex (mC (.int 1)))))]) bYes (mTup [(.ex (mVar 11)), (.ex (mVar 11)), (.ex (mC (.int 0)))]) [x0, some (.sh (.int d)), x2, x3, x4, x5, x6, x7, x8, x9, x10, none] =
    .ok (to (flN d.toNat)) [x0, some (.sh (.int d)), x2, x3, x4, x5, x6, x7, x8, x9, x10, none] := by
  show _ = MM.R.ok (O.ol (shs (tUs (flN d.toNat)))) _
  rw [flU]
  refine lc_mm (ρ1 := [x0, some (.sh (.int d)), x2, x3, x4, x5, x6, x7, x8, x9, x10, none]) (ρw := [x0, some (.sh (.int d)), x2, x3, x4, x5, x6, x7, x8, x9, x10, none]) (l := List.range d.toNat) (fun i : Nat => PyData.int (1 + (i : Nat))) _ ?_ (by rw [List.length_range]; omega) rfl ?_
  · have hr : rngF [1, d + 1] = some (rngU 1 d.toNat) := by
      rw [rng2, show d + 1 - 1 = d by omega]
      · decide
      · unfold near; simp only [Bool.and_eq_true, decide_eq_true_eq]; omega
    rw [← rngU_map]
    simp_arith only [hr]
  · intro i _
    refine ⟨_, rfl, [x0, some (.sh (.int d)), x2, x3, x4, x5, x6, x7, x8, x9, x10, some (.sh (.int (1 + (i : Nat))))], ?_, rfl⟩
    simp_arith only [Nat.add_zero]
theorem is_right_ok (d k : Int) (e : En) (h1 : 1 ≤ d) (h2 : d ≤ 5) (hl : e.1.length ≤ 1000) (hm : e.2.length ≤ 1000) : m__law_is_right [.sh (eU e), .sh (.int d), .sh (.int k)] = .ok (.sh (.bool (right d k e))) [some (.sh (eU e)), some (.sh (.int d)), some (.sh (.int k))] := by
  obtain ⟨D, M⟩ := e
  simp only at hl hm
  have MA : d.natAbs < 2 ^ 64 := by omega
  have dn := nat_mem (d := d) (by omega)
  have R1 : ∀ ρ, fMul (.ol [.sh (.int 1)]) (.sh (.int d)) ρ = .ok (.ol (shs (iU (dueL d.toNat [])))) ρ := by
    intro ρ
    have := rep_ones (d := d.toNat) (z := 1) (ρ := ρ) (by omega)
    rwa [dn, ← dueL_nil] at this
  have S := fun ρ => fSort_s (ts := D) (ρ := ρ) (by omega)
  have N := ne_os (sortT D) D
  have TL : (tUs D).length = D.length := tUs_len
  have HM := fun ρ => f_minl (ρ := ρ) (due_ne (ts := D) h1)
  unfold right iD lenD
  simp only
  generalize hq : m__law_is_right _ = q
  unfold m__law_is_right b__law_is_right eU at hq
  simp only at hq
  rcases r_loop d k (some (.sh (.tuple [lT D, lT M]))) (some (.sh (lT D))) (some (.sh (lT M))) none none none h1 D [] none none none with ⟨g, y6, y7, y8, e⟩ | ⟨g, y5, y6, y7, y8, e⟩
  · rw [List.nil_append] at e
    rw [g, Bool.true_and]
    have gd : ∀ t ∈ D, Gd d t := fun t ht => goodB_ok (List.all_eq_true.mp g t ht)
    by_cases c0 : minZ (dueL d.toNat D) < 0
    · rw [decide_eq_false (show ¬ 0 ≤ minZ (dueL d.toNat D) by omega), Bool.and_false, Bool.and_false, Bool.false_and]
      simp_arith only [R1, e, HM, c0] at hq
      exact hq.symm
    · rw [decide_eq_true (show 0 ≤ minZ (dueL d.toNat D) by omega), Bool.and_true]
      have hn := minZ_le (show 0 ≤ minZ (dueL d.toNat D) by omega)
      by_cases c1 : ((D.length : Nat) : Int) = d * (d - 1) / 2 - k
      · rw [decide_eq_true c1, Bool.true_and]
        by_cases c2 : sortT D = D
        · rw [decide_eq_true c2, Bool.true_and]
          have N' : ∀ ρ, fNe (.ol (shs (tUs D))) (.sh (.list (tUs D))) ρ = .ok (.sh (.bool false)) ρ := fun ρ => ne_t2
          have du : ∀ f : Int, 1 ≤ f → f ≤ d → 0 ≤ dueZ D f ∧ dueZ D f ≤ 60 := fun f a b => by
            have := due_le (d := d.toNat) (by rw [dn]; exact gd) hn (f - 1).toNat (by omega)
            rw [show (((f - 1).toNat : Nat) : Int) + 1 = f by omega] at this
            omega
          have MK := marks_ok d D h1 h2 hl du
          have F := fl_lc11 d h1 h2
          have le : (D ++ endsN d.toNat D).length ≤ 1300 := by
            rw [← mks_end d D (by omega)]
            have := mks_len d D (fun i hi => (du ((i : Int) + 1) (by omega) (by omega)).2) d.toNat (by omega)
            omega
          have lf : (flN d.toNat).length ≤ 5 := by unfold flN; rw [List.length_map, List.length_range]; omega
          have AD := fun ρ => add_oo (flN d.toNat) (D ++ endsN d.toNat D) ρ (by omega)
          have S1 := fun ρ => fSort_s (ts := M) (ρ := ρ) (by omega)
          have S2 := fun ρ => fSort_t (ts := flN d.toNat ++ (D ++ endsN d.toNat D)) (ρ := ρ) (by rw [List.length_append]; omega)
          have NM := ne_oo (sortT M) (sortT (flN d.toNat ++ (D ++ endsN d.toNat D)))
          unfold iM
          by_cases c : sortT M = sortT (flN d.toNat ++ (D ++ endsN d.toNat D))
          · have NM' : ∀ ρ, fNe (.ol (shs (tUs (sortT (flN d.toNat ++ (D ++ endsN d.toNat D)))))) (.ol (shs (tUs (sortT (flN d.toNat ++ (D ++ endsN d.toNat D)))))) ρ = .ok (.sh (.bool false)) ρ := fun ρ => ne_t1
            rw [decide_eq_true c, Bool.true_and]
            have gg := gd_good h1 h2 gd hn
            rcases r2_loop (some (.sh (.tuple [lT D, lT M]))) (some (.sh (.int d))) (some (.sh (.int k))) (some (.sh (lT D))) (some (.sh (lT M))) (some (.ol (shs (iU (dueL d.toNat D))))) (some (to (flN d.toNat))) none M 0 y6 y7 y8 (iM_w gg c) with ⟨g2, z6, z7, z8, z10, e2⟩ | ⟨g2, z6, z7, z8, z10, e2⟩
            · rw [g2]
              simp_arith only [R1, e, HM, c0, MA, c1, S, c2, N', TL, F, MK, AD, S1, S2, c, NM', e2] at hq
              exact hq.symm
            · rw [g2]
              simp_arith only [R1, e, HM, c0, MA, c1, S, c2, N', TL, F, MK, AD, S1, S2, c, NM', e2] at hq
              exact hq.symm
          · rw [decide_eq_false c, Bool.false_and]
            simp_arith only [R1, e, HM, c0, MA, c1, S, c2, N', TL, F, MK, AD, S1, S2, c, NM] at hq
            exact hq.symm
        · rw [decide_eq_false c2, Bool.false_and]
          simp_arith only [R1, e, HM, c0, MA, c1, S, N, c2, TL] at hq
          exact hq.symm
      · rw [decide_eq_false c1, Bool.false_and, Bool.false_and]
        simp_arith only [R1, e, HM, c0, MA, c1, TL] at hq
        exact hq.symm
  · rw [g, Bool.false_and, Bool.false_and]
    simp_arith only [R1, e] at hq
    exact hq.symm
end K76
set_option maxRecDepth 1000000
set_option maxHeartbeats 1000000
namespace K76
open PySem L2 MM Snd
local macro_rules
  | `(tactic| simp_arith only [$xs:simpLemma,*] $[$loc:location]?) => `(tactic| simp (config := {decide := true}) (disch := (first | assumption | decide | omega | (simp only [List.length_cons, List.length_nil, List.length_append]; omega))) only [$xs,*, f_mull, f_mulr, ev_var, ev_ex, agV_e, agE_o, agE_x, oo_v, oo_o, bin_e, bin1_o, bin2_o, bin3_o, un_e, un1_o, un2_o, evs_n, evs_c, evs1_o, evs2_o, oso_n, oso_c, osa_n, osa_c, osa1_o, omap_s, lst_e, lst1_o, lst2_o, tup_e, tup1_o, tup2_o, tup3_s, tup3_n, alls_n, alls_c, alls_l, alls_t, cb_e, cb1_o, cb2_o, call_e, call1_o, call2_o, call3_o, call3_x, take_n, take_v, take_o, tkO_sh, tkO_ol, tkO_ot, tkO_sc, put_n, put_o, put_v, ptO_n, ptO_s, call0_e, call01_o, runF_e, run1_r, run1_n, run1_x, outs_n, outs_t, outs_f, mv_e, mv1_sh, mv1_ol, mv1_ot, mv2_o, mt_e, mt1_sh, mt1_ol, mt1_ot, mC_e, asb_e, asb1_o, asb2_o, ble_b, tru_e, tru1_o, tru2_o, and_e, and1_t, and1_f, or_e, or1_t, or1_f, not_e, not1_o, vand_e, vand1_o, vand2_t, vand2_f, vor_e, vor1_o, vor2_t, vor2_f, vnot_e, vnot1_o, vnot2_o, ife_e, if1_t, if1_f,
  ch_e, ch0_o, ch1_o, ch2_o, ch3_t, ch3_f, ch4_o, cn_e, cn1_o, lk_one, lk_more, lk1_o, lk2_o, lk3_t, lk3_f, seq_e, seq1_n, seq1_r, seq1_b, seq1_c, seq1_x, set_e, set1_o, set1_x, drop_e, drop1_o, drop1_x, ret_e, ret1_o, ret1_x, retN_e, nil_e, brk_e, cnt_e, raise_e, sif_e, sif1_t, sif1_f, aug_e, unp_e, unp1_o, unp2_o, unp3_o, unpE_ol, unpE_ot, unpE_tu, unpE_li, shs_n, shs_c, sal_n, sal_c, par_e, par1_o, par2_o, for_e, for1_o, lp_n, lp1_o, lp2_n, lp2_c, lp2_b, lp2_r, lp2_x, bind_nm, bind_tt, bind_tl, sr_e, sr1_o, sr2_o, sr3_o, inO_n, inO_c, f_sub, f_add, f_lt, f_le, f_gt, f_ge, f_eq, f_ne, f_neg, f_mod, f_div, f_pow, f_abs, f_len, f_lensc, f_lenl, f_lent, f_max2, f_min2, f_isi_ii, f_isi_ib, tr_b, tr_i, idx_e, idx1_o, at_l, at_t, at_ol, at_ot, at_sc, at_0, at_1, at_2, at_3, at_4, at_5, at_n, shE_s, decide_true, decide_false, mth_e, mth1_o, mth2_o, mth3_o, mth4_o, app_e, clr_e, tn0, tn1, tn2, tn3, tn4, tn5, tn6, tn7, tn8, tn9, tn10, tn11, tn12, at_6, at_7, at_8, at_9, at_10, at_11, at_12, while_e, evB_n, evB_s, eb1_o, eb2_o, sl_e, sl0_o, sl1_o, sl2_o, sl3_o, fSl_sh, fSl_ol, sa_e, sa1_v, sa1_o, sa2_o, itU_l, itU_t, fLi_sh, fLi_tu, fLi_ol, f_sum, f_sumo, rev_sh, rev_ol, isi_lst_l, isi_lst_o, isi_tup_t, fEq_nil, fEq_nilo, viewO_shs, shs_len, iU_len, ax_e, axB_o, ax0_o, ax1_o, ax2_o, ax3_o, ax4_o, ax5_o, at_t0, at_t1, at_t2, bind_t3, omap_n, f_addI, par3_e, par30_o, par31_o, mp_e, pmB_l, pmB_t, pmA_o, pm0_l, pm0_t, pm1_o, pm2_o, pm3_o, pm4_o, bor_e, borT_e, borO_o, borB_o, borO_x, borB_x, vwE_n, vwE_c, vw1_n, vw1_s, vw1_sc, vw1_ol, vw1_ot, vO_s, vO_l, vO_t, vOs_n, vOs_c, vcons_o, frz_e, frzO_o, frz2_o, frzO_x, try_e, try1_n, try1_r, try1_x, tryH_s, lkH, clr_r, clr_n, six_e, six0_o, six01_o, pix_e, pix1_o, pix2_o, ixN_l, six1_o, six2_o, bin1_x, bin2_x, un1_x, evs1_x, evs2_x, cb1_x, call1_x, lst1_x, tup1_x, f_maxD, fNe_nilo, eq_t1, eq_t2, eq_t3, eq_t4, eq_i1, eq_i2, eq_i3, eq_i4, viewOs_shs, ne_i1, ne_i2, ne_i3, ne_i4, ne_t1, ne_t2, ne_t3, ne_t4, ne_b, all_tt, isi_bl_b, forV_e, fv0_ol, fv0_sh, nl0_e, nl1_e, nla_o, nlb_o, nlit_s, keO_y, scO_i, nset_e, nst_o, nset0_e, nset1_o, nset2_s, npix_e, ndAt_y, nget_e, ng0_s, nget1_o, ng1_o, nget2_e, ng2_s, nget3_s, ndO_y, f_lenN, f_keysN, srcIt_e, nwO_y, si1_s, f_intb, f_inti, fTup_sh, fTup_ol, mt1_nd, tkO_nd, nix_e, nin_e, srcKy_e, sky_d, sky_f, nixf_e, src2X_e, s2a_o, s2b_s, sqB_l, sqB_u, zipX_ll, zipX_lt, zipX_tl,
  List.map_cons, List.map_nil, List.cons_append, List.nil_append, List.append_nil, List.replicate_succ, List.replicate_zero, List.getElem?_cons_zero, List.getElem?_cons_succ, List.getElem?_nil, List.set_cons_zero, List.set_cons_succ, List.set_nil, List.length_cons, List.length_nil, Option.getD_some, Option.getD_none, Option.bind_some, Option.some.injEq, reduceIte, Bool.not_true, Bool.not_false, intE] $[$loc]?)
def keyE (e : En) : U := .tuple [.tuple (tUs e.1), .tuple (tUs e.2)]
def encE (es : List En) : List (U × U) := es.map fun e => (keyE e, .bool true)
theorem encE_len (es : List En) : (encE es).length = es.length := by unfold encE; rw [List.length_map]
def nT (t : T3) : NestedKey := .tup [.num t.1, .num t.2.1, .num t.2.2]
theorem nks_t : ∀ ts : List T3, nkUs (tUs ts) = ts.map nT
  | [] => rfl
  | t :: ts => by
    show nkU (tU t) :: nkUs (tUs ts) = _
    rw [nks_t ts]
    rfl
theorem nT_inj : ∀ {a b : List T3}, a.map nT = b.map nT → a = b
  | [], [], _ => rfl
  | [], _ :: _, h => by simp at h
  | _ :: _, [], h => by simp at h
  | x :: a, y :: b, h => by
    rw [List.map_cons, List.map_cons] at h
    injection h with h1 h2
    obtain ⟨x1, x2, x3⟩ := x
    obtain ⟨y1, y2, y3⟩ := y
    injection h1 with h1
    injection h1 with a1 h1
    injection h1 with a2 h1
    injection h1 with a3 _
    injection a1 with a1
    injection a2 with a2
    injection a3 with a3
    simp only at a1 a2 a3
    rw [nT_inj h2, a1, a2, a3]
theorem keyE_eq (s t : En) : NestedKey.beq (nkU (keyE s)) (nkU (keyE t)) = true ↔ s = t := by
  rw [beq_iff]
  obtain ⟨a, b⟩ := s
  obtain ⟨a', b'⟩ := t
  show NestedKey.tup [.tup (nkUs (tUs a)), .tup (nkUs (tUs b))] = NestedKey.tup [.tup (nkUs (tUs a')), .tup (nkUs (tUs b'))] ↔ _
  rw [nks_t, nks_t, nks_t, nks_t]
  constructor
  · intro h
    injection h with h
    injection h with h1 h
    injection h with h2 _
    injection h1 with h1
    injection h2 with h2
    rw [nT_inj h1, nT_inj h2]
  · intro h
    cases h
    rfl
theorem lk_in {s : En} : ∀ {ks : List En}, s ∈ ks → lkN (encE ks) (nkU (keyE s)) = some (.bool true)
  | t :: ks, h => by
    show (if NestedKey.beq (nkU (keyE t)) (nkU (keyE s)) = true then some (PyData.bool true) else lkN (encE ks) (nkU (keyE s))) = _
    by_cases c : t = s
    · rw [if_pos ((keyE_eq _ _).mpr c)]
    · rw [if_neg fun z => c ((keyE_eq _ _).mp z)]
      rcases List.mem_cons.mp h with z | z
      · exact absurd z.symm c
      · exact lk_in z
theorem lk_out {s : En} : ∀ {ks : List En}, s ∉ ks → lkN (encE ks) (nkU (keyE s)) = none
  | [], _ => rfl
  | t :: ks, h => by
    show (if NestedKey.beq (nkU (keyE t)) (nkU (keyE s)) = true then some (PyData.bool true) else lkN (encE ks) (nkU (keyE s))) = _
    rw [if_neg fun z => h (by rw [← (keyE_eq _ _).mp z]; exact List.mem_cons_self)]
    exact lk_out fun z => h (List.mem_cons_of_mem _ z)
theorem put_new {s : En} {ks : List En} (h : s ∉ ks) : putN (encE ks) (keyE s) (.bool true) = encE (ks ++ [s]) := by
  unfold putN
  rw [lk_out h, Option.isSome_none, if_neg Bool.false_ne_true]
  unfold encE
  rw [List.map_append]
  rfl
theorem okUs_t : ∀ ts : List T3, okUs (tUs ts) = true
  | [] => rfl
  | t :: ts => by
    show (okU (tU t) && okUs (tUs ts)) = true
    rw [okUs_t ts]
    rfl
theorem dep_t : ∀ ts : List T3, NestedKey.depthAll (ts.map nT) ≤ 1
  | [] => by simp [NestedKey.depthAll]
  | t :: ts => by
    have := dep_t ts
    rw [List.map_cons, NestedKey.depthAll]
    have e : (nT t).depth = 1 := by
      unfold nT
      simp only [NestedKey.depth, NestedKey.depthAll]
      decide
    omega
theorem key_B (e : En) : keyB (keyE e) = true := by
  obtain ⟨a, b⟩ := e
  have h : (nkU (keyE (a, b))).depth ≤ 8 := by
    show (NestedKey.tup [.tup (nkUs (tUs a)), .tup (nkUs (tUs b))]).depth ≤ 8
    rw [nks_t, nks_t]
    have h1 := dep_t a
    have h2 := dep_t b
    simp only [NestedKey.depth, NestedKey.depthAll]
    omega
  show (true && ((okUs (tUs a) && (okUs (tUs b) && true)) && decide ((nkU (keyE (a, b))).depth ≤ 8))) = true
  rw [okUs_t, okUs_t, decide_eq_true h]
  rfl

theorem eU_eqv (e f : En) : PyData.eqv (eU e) (eU f) = decide (e = f) := by
  obtain ⟨a, b⟩ := e
  obtain ⟨a', b'⟩ := f
  have : PyData.eqv (eU (a, b)) (eU (a', b')) = (PyData.eqvAll (tUs a) (tUs a') && (PyData.eqvAll (tUs b) (tUs b') && true)) := by simp only [eU, lT, PyData.eqv, PyData.eqvAll]
  rw [this, tUs_eqv, tUs_eqv, Bool.eq_iff_iff]
  simp
theorem eU_depth (e : En) : (eU e).depth ≤ 3 := by
  have h1 := tUs_depth e.1
  have h2 := tUs_depth e.2
  show PyData.depth (.tuple [.list (tUs e.1), .list (tUs e.2)]) ≤ 3
  simp only [PyData.depth, PyData.depthAll]
  omega
theorem in_e (e : En) (es : List En) : inU (eU e) (.list (es.map eU)) = some (decide (e ∈ es)) := by
  show (if (eU e).depth ≤ 60 then some ((es.map eU).any fun z => PyData.eqv z (eU e)) else none) = _
  rw [if_pos (by have := eU_depth e; omega)]
  congr 1
  rw [Bool.eq_iff_iff, List.any_eq_true, decide_eq_true_eq]
  constructor
  · rintro ⟨z, hz, h⟩
    obtain ⟨f, hf, rfl⟩ := List.mem_map.mp hz
    rw [eU_eqv] at h
    rw [← of_decide_eq_true h]
    exact hf
  · intro h
    exact ⟨eU e, List.mem_map_of_mem h, by rw [eU_eqv, decide_eq_true rfl]⟩
theorem fin_e (e : En) (es : List En) (ρ : Ev) : fIn false (.sh (eU e)) (.ol (shs (es.map eU))) ρ = .ok (.sh (.bool (decide (e ∈ es)))) ρ := by
  have v1 : viewO (.sh (eU e)) = some (eU e) := rfl
  have v2 : viewO (.ol (shs (es.map eU))) = some (.list (es.map eU)) := by simp only [viewO, viewOs_shs]
  simp only [fIn, v1, v2, in_e, Bool.false_xor]
theorem sq_small {w : Int} (h1 : 1 ≤ w) (h2 : w ≤ 60) : (w * w).natAbs < 2 ^ 64 := by
  rw [Int.natAbs_mul]
  have : w.natAbs ≤ 60 := by omega
  calc w.natAbs * w.natAbs ≤ 60 * 60 := Nat.mul_le_mul this this
    _ < 2 ^ 64 := by decide
theorem f_mulB {i j : Int} {ρ : Ev} (h : j.natAbs < 2 ^ 64) : fI iMul (.sh (.int i)) (.sh (.int j)) ρ = .ok (.sh (.int (i * j))) ρ := by
  have : iMul i j = some (.int (i * j)) := by unfold iMul; rw [if_pos (.inr (.inl h))]
  simp only [fI, intE, this]
theorem f_mulC {i j : Int} {ρ : Ev} (h : j.natAbs < 2 ^ 64) : fMul (.sh (.int i)) (.sh (.int j)) ρ = .ok (.sh (.int (i * j))) ρ := by
  have : iMul i j = some (.int (i * j)) := by unfold iMul; rw [if_pos (.inr (.inl h))]
  simp only [fMul, intE, this]
theorem wo_loop (x0 : Option O) : ∀ (D : List T3) (f : Int) (x2 x3 x4 : Option O), (∀ t ∈ D, 1 ≤ t.2.2 ∧ t.2.2 ≤ 60) → ∃ y2 y3 y4, lpF (.tp [2, 3, 4]) b_worth_1 (tUs D) [x0, some (.sh (.int f)), x2, x3, x4] = .nx [x0, some (.sh (.int (D.foldl (fun a t => a * (t.2.2 * t.2.2)) f))), y2, y3, y4]
  | [], f, x2, x3, x4, _ => ⟨x2, x3, x4, rfl⟩
  | (l, h, w) :: D, f, x2, x3, x4, hw => by
    obtain ⟨y2, y3, y4, ih⟩ := wo_loop x0 D (f * (w * w)) (some (.sh (.int l))) (some (.sh (.int h))) (some (.sh (.int w))) fun t ht => hw t (List.mem_cons_of_mem _ ht)
    have z := hw _ List.mem_cons_self
    simp only at z
    have z1 := sq_small z.1 z.2
    have z2 : w.natAbs < 2 ^ 64 := by omega
    have B : b_worth_1 [x0, some (.sh (.int f)), some (.sh (.int l)), some (.sh (.int h)), some (.sh (.int w))] = .nx [x0, some (.sh (.int (f * (w * w)))), some (.sh (.int l)), some (.sh (.int h)), some (.sh (.int w))] := by
      have m1 := fun ρ => f_mulC (i := w) (ρ := ρ) z2
      have m2 := fun ρ => f_mulB (i := f) (ρ := ρ) z1
      generalize hq : b_worth_1 _ = q
      unfold b_worth_1 at hq
      simp_arith only [m1, m2] at hq
      exact hq.symm
    refine ⟨y2, y3, y4, ?_⟩
    have G : lpF (.tp [2, 3, 4]) b_worth_1 (tUs ((l, h, w) :: D)) [x0, some (.sh (.int f)), x2, x3, x4] = lp2 (.tp [2, 3, 4]) b_worth_1 (tUs D) (b_worth_1 [x0, some (.sh (.int f)), some (.sh (.int l)), some (.sh (.int h)), some (.sh (.int w))]) := lp_go bind_t3
    rw [G, B, lp2_n, ih]
    rfl
theorem worth_ok (D : List T3) (hw : ∀ t ∈ D, 1 ≤ t.2.2 ∧ t.2.2 ≤ 60) : m_worth [.sh (lT D)] = .ok (.sh (.int (wz D))) [some (.sh (lT D))] := by
  obtain ⟨y2, y3, y4, L⟩ := wo_loop (some (.sh (lT D))) D 1 none none none hw
  unfold wz
  generalize hq : m_worth _ = q
  unfold m_worth b_worth at hq
  simp_arith only [forV_e, fv0_sh, L] at hq
  exact hq.symm
structure En1 (e : En) : Prop where
  l1 : e.1.length ≤ 1000
  l2 : e.2.length ≤ 1000
theorem right_w {d k : Int} {e : En} (h1 : 1 ≤ d) (h5 : d ≤ 5) (h : iD d k e.1 = true) : ∀ t ∈ e.1, 1 ≤ t.2.2 ∧ t.2.2 ≤ 60 := fun t ht => by
  have g := (iD_snd h1 h5 h).1 t ht
  exact ⟨g.w1, g.w6⟩
theorem w_turn (d k : Int) (os : Option O) (done : List En) (e : En) (t : Int) (h1 : 1 ≤ d) (h5 : d ≤ 5) (hl : done.length ≤ 1000) (he : En1 e) (x7 : Option O) :
    (right d k e = true ∧ e ∉ done → ∃ y7, b_weighed_1 [some (.sh (.int d)), some (.sh (.int k)), os, some (.nd (encE done)), some (.sh (.int t)), some (.sh (lT e.1)), some (.sh (lT e.2)), x7] =
      .nx [some (.sh (.int d)), some (.sh (.int k)), os, some (.nd (encE (done ++ [e]))), some (.sh (.int (t + wz e.1))), some (.sh (lT e.1)), some (.sh (lT e.2)), y7]) ∧
    (¬ (right d k e = true ∧ e ∉ done) → ∃ y7, b_weighed_1 [some (.sh (.int d)), some (.sh (.int k)), os, some (.nd (encE done)), some (.sh (.int t)), some (.sh (lT e.1)), some (.sh (lT e.2)), x7] =
      .rt (.sh .none) [some (.sh (.int d)), some (.sh (.int k)), os, some (.nd (encE done)), some (.sh (.int t)), some (.sh (lT e.1)), some (.sh (lT e.2)), y7]) := by
  have KB : keyB (.tuple [.tuple (tUs e.1), .tuple (tUs e.2)]) = true := key_B e
  have ZL : (encE done).length < 16777216 := by rw [encE_len]; omega
  have T1 : ∀ ρ, fTuple [.sh (.list (tUs e.1))] ρ = .ok (.sh (.tuple (tUs e.1))) ρ := fun _ => rfl
  have T2 : ∀ ρ, fTuple [.sh (.list (tUs e.2))] ρ = .ok (.sh (.tuple (tUs e.2))) ρ := fun _ => rfl
  have SB : scO (.sh (.bool true)) = some (.bool true) := rfl
  have i1 := is_drawing_ok d k e.1 h1 h5 he.l1
  cases c1 : iD d k e.1 with
  | false =>
    have nr : right d k e = false := by unfold right; rw [c1, Bool.false_and]
    refine ⟨fun z => absurd z.1 (by rw [nr]; exact Bool.false_ne_true), fun _ => ?_⟩
    rw [c1] at i1
    generalize hq : b_weighed_1 _ = q
    unfold b_weighed_1 at hq
    unfold lT at *
    generalize tUs e.1 = u at *
    generalize tUs e.2 = v at *
    simp_arith only [i1] at hq
    exact ⟨_, hq.symm⟩
  | true =>
    rw [c1] at i1
    have q := iD_ok c1
    have i2 := is_marking_ok d e.1 e.2 h1 h5 he.l1 he.l2 q.gd (minZ_le q.mn)
    cases c2 : iM d e.1 e.2 with
    | false =>
      have nr : right d k e = false := by unfold right; rw [c2, Bool.and_false]
      refine ⟨fun z => absurd z.1 (by rw [nr]; exact Bool.false_ne_true), fun _ => ?_⟩
      rw [c2] at i2
      generalize hq : b_weighed_1 _ = q
      unfold b_weighed_1 at hq
      unfold lT at *
      generalize tUs e.1 = u at *
      generalize tUs e.2 = v at *
      simp_arith only [i1, i2] at hq
      exact ⟨_, hq.symm⟩
    | true =>
      rw [c2] at i2
      have r : right d k e = true := by unfold right; rw [c1, c2]; rfl
      have i3 := worth_ok e.1 (right_w h1 h5 c1)
      refine ⟨fun z => ?_, fun z => ?_⟩
      · have LK : lkN (encE done) (nkU (.tuple [.tuple (tUs e.1), .tuple (tUs e.2)])) = none := lk_out z.2
        have PU : putN (encE done) (.tuple [.tuple (tUs e.1), .tuple (tUs e.2)]) (.bool true) = encE (done ++ [e]) := put_new z.2
        generalize hq : b_weighed_1 _ = q
        unfold b_weighed_1 at hq
        unfold lT at *
        generalize tUs e.1 = u at *
        generalize tUs e.2 = v at *
        simp_arith only [i1, i2, i3, T1, T2, nin_e KB, LK, Option.isSome_none, KB, ZL, PU, SB, Bool.xor_false] at hq
        exact ⟨_, hq.symm⟩
      · have hin : e ∈ done := by
          by_cases m : e ∈ done
          · exact m
          · exact absurd ⟨r, m⟩ z
        have LK : lkN (encE done) (nkU (.tuple [.tuple (tUs e.1), .tuple (tUs e.2)])) = some (.bool true) := lk_in hin
        generalize hq : b_weighed_1 _ = q
        unfold b_weighed_1 at hq
        unfold lT at *
        generalize tUs e.1 = u at *
        generalize tUs e.2 = v at *
        simp_arith only [i1, i2, T1, T2, nin_e KB, LK, Option.isSome_some, KB, Bool.false_xor] at hq
        exact ⟨_, hq.symm⟩
theorem w_loop (d k : Int) (os : Option O) (h1 : 1 ≤ d) (h5 : d ≤ 5) : ∀ (es done : List En) (t : Int) (x5 x6 x7 : Option O), done.length + es.length ≤ 1000 → (∀ e ∈ es, En1 e) →
    match goW d k es done t with
    | some z => ∃ y3 y5 y6 y7, lpF (.tp [5, 6]) b_weighed_1 (es.map eU) [some (.sh (.int d)), some (.sh (.int k)), os, some (.nd (encE done)), some (.sh (.int t)), x5, x6, x7] = .nx [some (.sh (.int d)), some (.sh (.int k)), os, y3, some (.sh (.int z)), y5, y6, y7]
    | none => ∃ y3 y4 y5 y6 y7, lpF (.tp [5, 6]) b_weighed_1 (es.map eU) [some (.sh (.int d)), some (.sh (.int k)), os, some (.nd (encE done)), some (.sh (.int t)), x5, x6, x7] = .rt (.sh .none) [some (.sh (.int d)), some (.sh (.int k)), os, y3, y4, y5, y6, y7]
  | [], done, t, x5, x6, x7, _, _ => ⟨_, _, _, _, rfl⟩
  | e :: es, done, t, x5, x6, x7, hl, he => by
    rw [List.length_cons] at hl
    have T := w_turn d k os done e t h1 h5 (by omega) (he e List.mem_cons_self) x7
    have G : lpF (.tp [5, 6]) b_weighed_1 ((e :: es).map eU) [some (.sh (.int d)), some (.sh (.int k)), os, some (.nd (encE done)), some (.sh (.int t)), x5, x6, x7] = lp2 (.tp [5, 6]) b_weighed_1 (es.map eU) (b_weighed_1 [some (.sh (.int d)), some (.sh (.int k)), os, some (.nd (encE done)), some (.sh (.int t)), some (.sh (lT e.1)), some (.sh (lT e.2)), x7]) := lp_go rfl
    rw [G]
    unfold goW
    by_cases c : right d k e = true ∧ e ∉ done
    · obtain ⟨y7, B⟩ := T.1 c
      rw [if_pos c, B, lp2_n]
      exact w_loop d k os h1 h5 es (done ++ [e]) (t + wz e.1) _ _ _ (by rw [List.length_append, List.length_singleton]; omega) fun f hf => he f (List.mem_cons_of_mem _ hf)
    · obtain ⟨y7, B⟩ := T.2 c
      rw [if_neg c, B, lp2_r]
      exact ⟨_, _, _, _, _, rfl⟩
theorem wide_ok (d k : Int) (h1 : 1 ≤ d) (h5 : d ≤ 5) (k0 : 0 ≤ k) (k6 : k ≤ 6) (hk : d = 5 → k ≤ 3) : m_asked_wide [.sh (.int d), .sh (.int k)] = .ok (.sh .none) [some (.sh (.int d)), some (.sh (.int k))] := by
  have a := asked_ok d h1 h5
  have w : m_is_whole [.sh (.int k)] = .ok (.sh (.bool true)) [some (.sh (.int k))] := rfl
  have b : m_asked_crossings [.sh (.int k), .sh (.int 6)] = .ok (.sh .none) [some (.sh (.int k)), some (.sh (.int 6))] := by
    unfold m_asked_crossings b_asked_crossings
    simp_arith only [w, k0, k6]
  generalize hq : m_asked_wide _ = q
  unfold m_asked_wide b_asked_wide at hq
  by_cases c : d = 5
  · have c3 : ¬ 3 < k := by have := hk c; omega
    subst c
    simp_arith only [a, b, c3] at hq
    exact hq.symm
  · simp_arith only [a, b, c] at hq
    exact hq.symm
theorem weighed_ok (d k : Int) (es : List En) (h1 : 1 ≤ d) (h5 : d ≤ 5) (k0 : 0 ≤ k) (k6 : k ≤ 6) (hk : d = 5 → k ≤ 3) (hl : es.length ≤ 1000) (he : ∀ e ∈ es, En1 e) :
    m_weighed [.sh (.int d), .sh (.int k), .sh (.list (es.map eU))] = .ok (.sh (vO (wV d k es))) [some (.sh (.int d)), some (.sh (.int k)), some (.sh (.list (es.map eU)))] := by
  have aw := wide_ok d k h1 h5 k0 k6 hk
  have L := w_loop d k (some (.sh (.list (es.map eU)))) h1 h5 es [] 0 none none none (by simpa using hl) he
  have e0 : encE [] = [] := rfl
  rw [e0] at L
  unfold wV
  generalize hq : m_weighed _ = q
  unfold m_weighed b_weighed at hq
  cases c : goW d k es [] 0 with
  | some z =>
    rw [c] at L
    obtain ⟨y3, y5, y6, y7, L⟩ := L
    generalize es.map eU = us at *
    simp_arith only [aw, forV_e, fv0_sh, L] at hq
    exact hq.symm
  | none =>
    rw [c] at L
    obtain ⟨y3, y4, y5, y6, y7, L⟩ := L
    generalize es.map eU = us at *
    simp_arith only [aw, forV_e, fv0_sh, L] at hq
    exact hq.symm
end K76
set_option maxRecDepth 1000000
set_option maxHeartbeats 1000000
namespace K76
open PySem L2 MM Snd
local macro_rules
  | `(tactic| simp_arith only [$xs:simpLemma,*] $[$loc:location]?) => `(tactic| simp (config := {decide := true}) (disch := (first | assumption | decide | omega | (simp only [List.length_cons, List.length_nil, List.length_append]; omega))) only [$xs,*, f_mull, f_mulr, ev_var, ev_ex, agV_e, agE_o, agE_x, oo_v, oo_o, bin_e, bin1_o, bin2_o, bin3_o, un_e, un1_o, un2_o, evs_n, evs_c, evs1_o, evs2_o, oso_n, oso_c, osa_n, osa_c, osa1_o, omap_s, lst_e, lst1_o, lst2_o, tup_e, tup1_o, tup2_o, tup3_s, tup3_n, alls_n, alls_c, alls_l, alls_t, cb_e, cb1_o, cb2_o, call_e, call1_o, call2_o, call3_o, call3_x, take_n, take_v, take_o, tkO_sh, tkO_ol, tkO_ot, tkO_sc, put_n, put_o, put_v, ptO_n, ptO_s, call0_e, call01_o, runF_e, run1_r, run1_n, run1_x, outs_n, outs_t, outs_f, mv_e, mv1_sh, mv1_ol, mv1_ot, mv2_o, mt_e, mt1_sh, mt1_ol, mt1_ot, mC_e, asb_e, asb1_o, asb2_o, ble_b, tru_e, tru1_o, tru2_o, and_e, and1_t, and1_f, or_e, or1_t, or1_f, not_e, not1_o, vand_e, vand1_o, vand2_t, vand2_f, vor_e, vor1_o, vor2_t, vor2_f, vnot_e, vnot1_o, vnot2_o, ife_e, if1_t, if1_f,
  ch_e, ch0_o, ch1_o, ch2_o, ch3_t, ch3_f, ch4_o, cn_e, cn1_o, lk_one, lk_more, lk1_o, lk2_o, lk3_t, lk3_f, seq_e, seq1_n, seq1_r, seq1_b, seq1_c, seq1_x, set_e, set1_o, set1_x, drop_e, drop1_o, drop1_x, ret_e, ret1_o, ret1_x, retN_e, nil_e, brk_e, cnt_e, raise_e, sif_e, sif1_t, sif1_f, aug_e, unp_e, unp1_o, unp2_o, unp3_o, unpE_ol, unpE_ot, unpE_tu, unpE_li, shs_n, shs_c, sal_n, sal_c, par_e, par1_o, par2_o, for_e, for1_o, lp_n, lp1_o, lp2_n, lp2_c, lp2_b, lp2_r, lp2_x, bind_nm, bind_tt, bind_tl, sr_e, sr1_o, sr2_o, sr3_o, inO_n, inO_c, f_sub, f_add, f_lt, f_le, f_gt, f_ge, f_eq, f_ne, f_neg, f_mod, f_div, f_pow, f_abs, f_len, f_lensc, f_lenl, f_lent, f_max2, f_min2, f_isi_ii, f_isi_ib, tr_b, tr_i, idx_e, idx1_o, at_l, at_t, at_ol, at_ot, at_sc, at_0, at_1, at_2, at_3, at_4, at_5, at_n, shE_s, decide_true, decide_false, mth_e, mth1_o, mth2_o, mth3_o, mth4_o, app_e, clr_e, tn0, tn1, tn2, tn3, tn4, tn5, tn6, tn7, tn8, tn9, tn10, tn11, tn12, at_6, at_7, at_8, at_9, at_10, at_11, at_12, while_e, evB_n, evB_s, eb1_o, eb2_o, sl_e, sl0_o, sl1_o, sl2_o, sl3_o, fSl_sh, fSl_ol, sa_e, sa1_v, sa1_o, sa2_o, itU_l, itU_t, fLi_sh, fLi_tu, fLi_ol, f_sum, f_sumo, rev_sh, rev_ol, isi_lst_l, isi_lst_o, isi_tup_t, fEq_nil, fEq_nilo, viewO_shs, shs_len, iU_len, ax_e, axB_o, ax0_o, ax1_o, ax2_o, ax3_o, ax4_o, ax5_o, at_t0, at_t1, at_t2, bind_t3, omap_n, f_addI, par3_e, par30_o, par31_o, mp_e, pmB_l, pmB_t, pmA_o, pm0_l, pm0_t, pm1_o, pm2_o, pm3_o, pm4_o, bor_e, borT_e, borO_o, borB_o, borO_x, borB_x, vwE_n, vwE_c, vw1_n, vw1_s, vw1_sc, vw1_ol, vw1_ot, vO_s, vO_l, vO_t, vOs_n, vOs_c, vcons_o, frz_e, frzO_o, frz2_o, frzO_x, try_e, try1_n, try1_r, try1_x, tryH_s, lkH, clr_r, clr_n, six_e, six0_o, six01_o, pix_e, pix1_o, pix2_o, ixN_l, six1_o, six2_o, bin1_x, bin2_x, un1_x, evs1_x, evs2_x, cb1_x, call1_x, lst1_x, tup1_x, f_maxD, fNe_nilo, eq_t1, eq_t2, eq_t3, eq_t4, eq_i1, eq_i2, eq_i3, eq_i4, viewOs_shs, ne_i1, ne_i2, ne_i3, ne_i4, ne_t1, ne_t2, ne_t3, ne_t4, ne_b, all_tt, isi_bl_b, forV_e, fv0_ol, fv0_sh, nl0_e, nl1_e, nla_o, nlb_o, nlit_s, keO_y, scO_i, nset_e, nst_o, nset0_e, nset1_o, nset2_s, npix_e, ndAt_y, nget_e, ng0_s, nget1_o, ng1_o, nget2_e, ng2_s, nget3_s, ndO_y, f_lenN, f_keysN, srcIt_e, nwO_y, si1_s, f_intb, f_inti, fTup_sh, fTup_ol, mt1_nd, tkO_nd, nix_e, nin_e, srcKy_e, sky_d, sky_f, nixf_e, src2X_e, s2a_o, s2b_s, sqB_l, sqB_u, zipX_ll, zipX_lt, zipX_tl,
  List.map_cons, List.map_nil, List.cons_append, List.nil_append, List.append_nil, List.replicate_succ, List.replicate_zero, List.getElem?_cons_zero, List.getElem?_cons_succ, List.getElem?_nil, List.set_cons_zero, List.set_cons_succ, List.set_nil, List.length_cons, List.length_nil, Option.getD_some, Option.getD_none, Option.bind_some, Option.some.injEq, reduceIte, Bool.not_true, Bool.not_false, intE] $[$loc]?)
theorem cut_lo (us : List U) (n : Nat) : cutU us none (some ((n : Nat) : Int)) = us.take n := by
  unfold cutU
  rw [HT.sIx_none, HT.sIx_nat, List.drop_zero, Nat.sub_zero]
  by_cases h : n ≤ us.length
  · rw [Nat.min_eq_left h]
  · rw [Nat.min_eq_right (by omega), List.take_of_length_le (Nat.le_refl _), List.take_of_length_le (by omega)]
theorem du_in (x0 x1 x2 x3 x4 : Option O) : ∀ (D : List T3) (f : Int) (x6 x7 x8 : Option O), (∀ t ∈ D, 1 ≤ t.2.2 ∧ t.2.2 ≤ 60) → ∃ y6 y7 y8, lpF (.tp [6, 7, 8]) b__law_due_1 (tUs D) [x0, x1, x2, x3, x4, some (.sh (.int f)), x6, x7, x8] = .nx [x0, x1, x2, x3, x4, some (.sh (.int (D.foldl (fun a t => a * (t.2.2 * t.2.2)) f))), y6, y7, y8]
  | [], f, x6, x7, x8, _ => ⟨x6, x7, x8, rfl⟩
  | (l, h, w) :: D, f, x6, x7, x8, hw => by
    obtain ⟨y6, y7, y8, ih⟩ := du_in x0 x1 x2 x3 x4 D (f * (w * w)) (some (.sh (.int l))) (some (.sh (.int h))) (some (.sh (.int w))) fun t ht => hw t (List.mem_cons_of_mem _ ht)
    have z := hw _ List.mem_cons_self
    simp only at z
    have z2 : w.natAbs < 2 ^ 64 := by omega
    have B : b__law_due_1 [x0, x1, x2, x3, x4, some (.sh (.int f)), some (.sh (.int l)), some (.sh (.int h)), some (.sh (.int w))] = .nx [x0, x1, x2, x3, x4, some (.sh (.int (f * (w * w)))), some (.sh (.int l)), some (.sh (.int h)), some (.sh (.int w))] := by
      have m1 := fun ρ => f_mulC (i := f) (ρ := ρ) z2
      have m2 := fun ρ => f_mulC (i := f * w) (ρ := ρ) z2
      rw [← Int.mul_assoc]
      generalize hq : b__law_due_1 _ = q
      unfold b__law_due_1 at hq
      simp_arith only [m1, m2] at hq
      exact hq.symm
    refine ⟨y6, y7, y8, ?_⟩
    have G : lpF (.tp [6, 7, 8]) b__law_due_1 (tUs ((l, h, w) :: D)) [x0, x1, x2, x3, x4, some (.sh (.int f)), x6, x7, x8] = lp2 (.tp [6, 7, 8]) b__law_due_1 (tUs D) (b__law_due_1 [x0, x1, x2, x3, x4, some (.sh (.int f)), some (.sh (.int l)), some (.sh (.int h)), some (.sh (.int w))]) := lp_go bind_t3
    rw [G, B, lp2_n, ih]
    rfl
theorem du_turn (d k : Int) (es : List En) (n : Nat) (e : En) (he : es[n]? = some e) (t : Int) (h1 : 1 ≤ d) (h5 : d ≤ 5) (he1 : En1 e) (x5 x6 x7 x8 : Option O) :
    (right d k e = true ∧ e ∉ es.take n → ∃ y5 y6 y7 y8, b__law_due_2 [some (.sh (.list (es.map eU))), some (.sh (.int d)), some (.sh (.int k)), some (.sh (.int t)), some (.sh (.int (n : Nat))), x5, x6, x7, x8] =
      .nx [some (.sh (.list (es.map eU))), some (.sh (.int d)), some (.sh (.int k)), some (.sh (.int (t + wz e.1))), some (.sh (.int (n : Nat))), y5, y6, y7, y8]) ∧
    (¬ (right d k e = true ∧ e ∉ es.take n) → ∃ y3 y4 y5 y6 y7 y8, b__law_due_2 [some (.sh (.list (es.map eU))), some (.sh (.int d)), some (.sh (.int k)), some (.sh (.int t)), some (.sh (.int (n : Nat))), x5, x6, x7, x8] =
      .rt (.sh .none) [some (.sh (.list (es.map eU))), some (.sh (.int d)), some (.sh (.int k)), y3, y4, y5, y6, y7, y8]) := by
  have AT : at' (es.map eU) (n : Nat) = some (eU e) := by rw [at_n, List.getElem?_map, he]; rfl
  have i1 := is_right_ok d k e h1 h5 he1.l1 he1.l2
  have CL := cut_lo (es.map eU) n
  rw [← List.map_take] at CL
  have FI := fin_e e (es.take n)
  cases c1 : right d k e with
  | false =>
    refine ⟨fun z => absurd z.1 Bool.false_ne_true, fun _ => ?_⟩
    rw [c1] at i1
    generalize hq : b__law_due_2 _ = q
    unfold b__law_due_2 at hq
    generalize hus : es.map eU = us at *
    simp_arith only [AT, i1] at hq
    exact ⟨_, _, _, _, _, _, hq.symm⟩
  | true =>
    rw [c1] at i1
    refine ⟨fun z => ?_, fun z => ?_⟩
    · rw [decide_eq_false z.2] at FI
      have c2 : iD d k e.1 = true := by
        have : (iD d k e.1 && iM d e.1 e.2) = true := c1
        rw [Bool.and_eq_true] at this
        exact this.1
      obtain ⟨y6, y7, y8, L⟩ := du_in (some (.sh (.list (es.map eU)))) (some (.sh (.int d))) (some (.sh (.int k))) (some (.sh (.int t))) (some (.sh (.int (n : Nat)))) e.1 1 x6 x7 x8 (right_w h1 h5 c2)
      have A2 : ∀ ρ, fIdx (.sh (eU e)) (.sh (.int 0)) ρ = .ok (.sh (.list (tUs e.1))) ρ := fun _ => rfl
      unfold wz
      generalize hq : b__law_due_2 _ = q
      unfold b__law_due_2 at hq
      generalize hus : es.map eU = us at *
      generalize (es.take n).map eU = vs at *
      generalize hw : eU e = w at *
      simp_arith only [AT, i1, CL, FI, A2, L] at hq
      exact ⟨_, _, _, _, hq.symm⟩
    · have hin : e ∈ es.take n := by
        by_cases m : e ∈ es.take n
        · exact m
        · exact absurd ⟨rfl, m⟩ z
      rw [decide_eq_true hin] at FI
      generalize hq : b__law_due_2 _ = q
      unfold b__law_due_2 at hq
      generalize hus : es.map eU = us at *
      generalize (es.take n).map eU = vs at *
      generalize hw : eU e = w at *
      simp_arith only [AT, i1, CL, FI] at hq
      exact ⟨_, _, _, _, _, _, hq.symm⟩
theorem du_loop (d k : Int) (es : List En) (h1 : 1 ≤ d) (h5 : d ≤ 5) (he : ∀ e ∈ es, En1 e) : ∀ (m n : Nat) (t : Int) (x4 x5 x6 x7 x8 : Option O), n + m = es.length →
    match goW d k (es.drop n) (es.take n) t with
    | some z => ∃ y4 y5 y6 y7 y8, lpF (.nm 4) b__law_due_2 (rngU (n : Nat) m) [some (.sh (.list (es.map eU))), some (.sh (.int d)), some (.sh (.int k)), some (.sh (.int t)), x4, x5, x6, x7, x8] = .nx [some (.sh (.list (es.map eU))), some (.sh (.int d)), some (.sh (.int k)), some (.sh (.int z)), y4, y5, y6, y7, y8]
    | none => ∃ y3 y4 y5 y6 y7 y8, lpF (.nm 4) b__law_due_2 (rngU (n : Nat) m) [some (.sh (.list (es.map eU))), some (.sh (.int d)), some (.sh (.int k)), some (.sh (.int t)), x4, x5, x6, x7, x8] = .rt (.sh .none) [some (.sh (.list (es.map eU))), some (.sh (.int d)), some (.sh (.int k)), y3, y4, y5, y6, y7, y8]
  | 0, n, t, x4, x5, x6, x7, x8, e => by
    rw [List.drop_eq_nil_of_le (by omega)]
    exact ⟨_, _, _, _, _, rfl⟩
  | m + 1, n, t, x4, x5, x6, x7, x8, hm => by
    have hn : n < es.length := by omega
    have g : es[n]? = some es[n] := List.getElem?_eq_getElem hn
    have dc : es.drop n = es[n] :: es.drop (n + 1) := List.drop_eq_getElem_cons hn
    have tk : es.take (n + 1) = es.take n ++ [es[n]] := by rw [List.take_succ, g]; rfl
    have T := du_turn d k es n es[n] g t h1 h5 (he _ (List.getElem_mem hn)) x5 x6 x7 x8
    have G : lpF (.nm 4) b__law_due_2 (rngU (n : Nat) (m + 1)) [some (.sh (.list (es.map eU))), some (.sh (.int d)), some (.sh (.int k)), some (.sh (.int t)), x4, x5, x6, x7, x8] = lp2 (.nm 4) b__law_due_2 (rngU ((n : Nat) + 1) m) (b__law_due_2 [some (.sh (.list (es.map eU))), some (.sh (.int d)), some (.sh (.int k)), some (.sh (.int t)), some (.sh (.int (n : Nat))), x5, x6, x7, x8]) := lp_go rfl
    rw [G, dc]
    unfold goW
    by_cases c : right d k es[n] = true ∧ es[n] ∉ es.take n
    · obtain ⟨y5, y6, y7, y8, B⟩ := T.1 c
      rw [if_pos c, B, lp2_n, ← tk]
      exact du_loop d k es h1 h5 he m (n + 1) (t + wz es[n].1) _ _ _ _ _ (by omega)
    · obtain ⟨y3, y4, y5, y6, y7, y8, B⟩ := T.2 c
      rw [if_neg c, B, lp2_r]
      exact ⟨_, _, _, _, _, _, rfl⟩
theorem law_due_ok (d k : Int) (es : List En) (h1 : 1 ≤ d) (h5 : d ≤ 5) (hl : es.length ≤ 1000) (he : ∀ e ∈ es, En1 e) :
    m__law_due [.sh (.list (es.map eU)), .sh (.int d), .sh (.int k)] = .ok (.sh (vO (wV d k es))) [some (.sh (.list (es.map eU))), some (.sh (.int d)), some (.sh (.int k))] := by
  have L := du_loop d k es h1 h5 he es.length 0 0 none none none none none (by omega)
  rw [List.drop_zero, List.take_zero] at L
  have hr : rngF [((es.map eU).length : Nat)] = some (rngU 0 es.length) := by
    rw [List.length_map]; exact rng_n es.length rfl hl
  have c0 : (((0 : Nat) : Int)) = 0 := rfl
  rw [c0] at L
  unfold wV
  generalize hq : m__law_due _ = q
  unfold m__law_due b__law_due at hq
  cases c : goW d k es [] 0 with
  | some z =>
    rw [c] at L
    obtain ⟨y4, y5, y6, y7, y8, L⟩ := L
    generalize es.map eU = us at *
    simp_arith only [hr, L] at hq
    exact hq.symm
  | none =>
    rw [c] at L
    obtain ⟨y3, y4, y5, y6, y7, y8, L⟩ := L
    generalize es.map eU = us at *
    simp_arith only [hr, L] at hq
    exact hq.symm
theorem lpC_O {α : Type} {t : Tg} {own : List Nat} {elt : ME} (ρ : Ev) (g : α → U) (h : α → O) : ∀ (l : List α), (∀ r ∈ l, ∃ ρ1, bind t (g r) ρ = some ρ1 ∧ ∃ ρ3, elt ρ1 = .ok (h r) ρ3 ∧ wipeE ρ3 own = ρ) →
    ∀ acc : List O, lpC t own bYes elt (l.map g) acc ρ = .ok (.ol (acc.reverse ++ l.map h)) ρ
  | [], _, acc => by simp [lpC]
  | r :: l, hh, acc => by
    obtain ⟨ρ1, e1, ρ3, e3, e4⟩ := hh r List.mem_cons_self
    have ih := lpC_O ρ g h l fun v hv => hh v (List.mem_cons_of_mem _ hv)
    rw [List.map_cons]
    unfold lpC
    simp only [e1, bYes, e3, e4]
    rw [ih (h r :: acc), List.reverse_cons, List.append_assoc]
    rfl
theorem lc_O {α : Type} {t : Tg} {own : List Nat} {src : Ev → MM.R (List U)} {elt : ME} {ρ ρ1 ρw : Ev} {l : List α} (g : α → U) (h : α → O) (hs : src ρ = .ok (l.map g) ρ1) (hl : l.length ≤ 16777216) (hw : wipeE ρ1 own = ρw)
    (hh : ∀ r ∈ l, ∃ ρ1, bind t (g r) ρw = some ρ1 ∧ ∃ ρ3, elt ρ1 = .ok (h r) ρ3 ∧ wipeE ρ3 own = ρw) :
    mLc t own src bYes elt ρ = .ok (.ol (l.map h)) (resE ρ1 own ρw) := by
  unfold mLc
  rw [hs]
  have hl2 : (l.map g).length ≤ 16777216 := by rw [List.length_map]; exact hl
  simp only [if_pos hl2, hw, lpC_O ρw g h l hh [], List.reverse_nil, List.nil_append]
def eF (e : En) : O := .ot [.ol (shs (tUs e.1)), .ol (shs (tUs e.2))]
theorem viewOs_F : ∀ es : List En, viewOs (es.map eF) = some (es.map eU)
  | [] => rfl
  | e :: es => by
    show viewOs (.ot [.ol (shs (tUs e.1)), .ol (shs (tUs e.2))] :: es.map eF) = _
    rw [vOs_c, viewOs_F es]
    simp only [viewO, viewOs, viewOs_shs, Option.map_some, Option.bind_some]
    rfl
theorem eUs_eqv : ∀ es : List En, PyData.eqvAll (es.map eU) (es.map eU) = true
  | [] => by simp [PyData.eqvAll]
  | e :: es => by
    rw [List.map_cons]
    simp only [PyData.eqvAll]
    rw [eU_eqv, eUs_eqv es, decide_eq_true rfl]
    rfl
theorem eUs_depth : ∀ es : List En, PyData.depthAll (es.map eU) ≤ 3
  | [] => by simp [PyData.depthAll]
  | e :: es => by
    have h1 := eU_depth e
    have h2 := eUs_depth es
    rw [List.map_cons]
    simp only [PyData.depthAll]
    omega
theorem ne_es (es : List En) (ρ : Ev) : fNe (.sh (.list (es.map eU))) (.sh (.list (es.map eU))) ρ = .ok (.sh (.bool false)) ρ := by
  have v1 : viewO (.sh (.list (es.map eU))) = some (.list (es.map eU)) := rfl
  have e : eqU (.list (es.map eU)) (.list (es.map eU)) = some true := by
    have h1 := eUs_depth es
    show (if (PyData.list (es.map eU)).depth ≤ 60 ∨ (PyData.list (es.map eU)).depth ≤ 60 then some (PyData.eqv (.list (es.map eU)) (.list (es.map eU))) else none) = _
    rw [if_pos (by left; simp only [PyData.depth]; omega)]
    simp only [PyData.eqv]
    rw [eUs_eqv]
  simp only [fNe, v1, e, Bool.not_true]
def RowsO (es : List En) (x : O) : Prop := x = .sh (.list (es.map eU)) ∨ ∃ os, x = .ol os ∧ viewOs os = some (es.map eU)
theorem hand_ok (d k : Int) (es : List En) (x : O) (hx : RowsO es x) (hl : es.length ≤ 1000) : mFrz (mLc (.nm 6) [6] (srcA (.ex (mVar 2))) bYes (mTup [(.ex (mCB fList [(.ex (mBin fIdx (.var 6) (.ex (mC (.int 0)))))])), (.ex (mCB fList [(.ex (mBin fIdx (.var 6) (.ex (mC (.int 1)))))]))])) [some (.sh (.int d)), some (.sh (.int k)), some x, none, none, none, none] =
    .ok (.sh (.list (es.map eU))) [some (.sh (.int d)), some (.sh (.int k)), some (.sh (.list (es.map eU))), none, none, none, none] := by
  have hs : srcA (.ex (mVar 2)) [some (.sh (.int d)), some (.sh (.int k)), some x, none, none, none, none] = .ok (es.map eU) [some (.sh (.int d)), some (.sh (.int k)), some (.sh (.list (es.map eU))), none, none, none, none] := by
    rcases hx with rfl | ⟨os, rfl, hv⟩
    · rfl
    · unfold srcA
      simp only [evA, mVar, List.getElem?_cons_succ, List.getElem?_cons_zero, viewO, hv]
      rfl
  have L := lc_O (t := .nm 6) (own := [6]) (elt := mTup [(.ex (mCB fList [(.ex (mBin fIdx (.var 6) (.ex (mC (.int 0)))))])), (.ex (mCB fList [(.ex (mBin fIdx (.var 6) (.ex (mC (.int 1)))))]))]) (ρw := [some (.sh (.int d)), some (.sh (.int k)), some (.sh (.list (es.map eU))), none, none, none, none]) (l := es) eU eF hs (by omega) rfl (fun e he => by
    refine ⟨_, rfl, [some (.sh (.int d)), some (.sh (.int k)), some (.sh (.list (es.map eU))), none, none, none, some (.sh (eU e))], ?_, rfl⟩
    generalize es.map eU = us at *
    have FL : ∀ (ts : List T3) ρ, fList [.sh (.list (tUs ts))] ρ = .ok (.ol (shs (tUs ts))) ρ := fun ts ρ => rfl
    unfold eU eF
    obtain ⟨x, y⟩ := e
    simp_arith only [FL])
  have v : viewO (.ol (es.map eF)) = some (.list (es.map eU)) := by simp only [viewO, viewOs_F]
  rw [frz_e, L]
  simp only [frzO, v]
  rfl
theorem law_asked_ok (d k : Int) (es : List En) (x : O) (hx : RowsO es x) (h1 : 1 ≤ d) (h5 : d ≤ 5) (k0 : 0 ≤ k) (k6 : k ≤ 6) (hk : d = 5 → k ≤ 3) (hl : es.length ≤ 1000) (he : ∀ e ∈ es, En1 e) :
    m__law_asked [.sh (.int d), .sh (.int k), x] = .ok (.sh (.bool true)) [some (.sh (.int d)), some (.sh (.int k)), some (.sh (.list (es.map eU)))] := by
  have H := hand_ok d k es x hx hl
  have W := weighed_ok d k es h1 h5 k0 k6 hk hl he
  have D := law_due_ok d k es h1 h5 hl he
  have N := ne_es es
  have I1 : ∀ ρ, fIsi .bl (.sh .none) ρ = .ok (.sh (.bool false)) ρ := fun _ => rfl
  have I2 : ∀ (z : Int) ρ, fIsi .bl (.sh (.int z)) ρ = .ok (.sh (.bool false)) ρ := fun _ _ => rfl
  have I3 : ∀ (z : Int) ρ, fIsi .int (.sh (.int z)) ρ = .ok (.sh (.bool true)) ρ := fun _ _ => rfl
  have N1 : ∀ ρ, fIsN (.sh .none) (.sh .none) ρ = .ok (.sh (.bool true)) ρ := fun _ => rfl
  have N2 : ∀ (z : Int) ρ, fIsN (.sh (.int z)) (.sh .none) ρ = .ok (.sh (.bool false)) ρ := fun _ _ => rfl
  generalize hq : m__law_asked _ = q
  unfold m__law_asked b__law_asked at hq
  cases c : wV d k es with
  | none =>
    rw [c] at W D
    unfold vO at W D
    simp only at W D
    generalize es.map eU = us at *
    simp_arith only [H, W, D, N, I1, N1] at hq
    exact hq.symm
  | some z =>
    rw [c] at W D
    unfold vO at W D
    simp only at W D
    generalize es.map eU = us at *
    simp_arith only [H, W, D, N, I2, I3, N2] at hq
    exact hq.symm
end K76
set_option maxRecDepth 1000000
set_option maxHeartbeats 1000000
namespace K76.Bg
open PySem L2 MM
local macro_rules
  | `(tactic| simp_arith only [$xs:simpLemma,*] $[$loc:location]?) => `(tactic| simp (config := {decide := true}) (disch := (first | assumption | decide | omega | (simp only [List.length_cons, List.length_nil, List.length_append]; omega))) only [$xs,*, f_mull, f_mulr, ev_var, ev_ex, agV_e, agE_o, agE_x, oo_v, oo_o, bin_e, bin1_o, bin2_o, bin3_o, un_e, un1_o, un2_o, evs_n, evs_c, evs1_o, evs2_o, oso_n, oso_c, osa_n, osa_c, osa1_o, omap_s, lst_e, lst1_o, lst2_o, tup_e, tup1_o, tup2_o, tup3_s, tup3_n, alls_n, alls_c, alls_l, alls_t, cb_e, cb1_o, cb2_o, call_e, call1_o, call2_o, call3_o, call3_x, take_n, take_v, take_o, tkO_sh, tkO_ol, tkO_ot, tkO_sc, put_n, put_o, put_v, ptO_n, ptO_s, call0_e, call01_o, runF_e, run1_r, run1_n, run1_x, outs_n, outs_t, outs_f, mv_e, mv1_sh, mv1_ol, mv1_ot, mv2_o, mt_e, mt1_sh, mt1_ol, mt1_ot, mC_e, asb_e, asb1_o, asb2_o, ble_b, tru_e, tru1_o, tru2_o, and_e, and1_t, and1_f, or_e, or1_t, or1_f, not_e, not1_o, vand_e, vand1_o, vand2_t, vand2_f, vor_e, vor1_o, vor2_t, vor2_f, vnot_e, vnot1_o, vnot2_o, ife_e, if1_t, if1_f,
  ch_e, ch0_o, ch1_o, ch2_o, ch3_t, ch3_f, ch4_o, cn_e, cn1_o, lk_one, lk_more, lk1_o, lk2_o, lk3_t, lk3_f, seq_e, seq1_n, seq1_r, seq1_b, seq1_c, seq1_x, set_e, set1_o, set1_x, drop_e, drop1_o, drop1_x, ret_e, ret1_o, ret1_x, retN_e, nil_e, brk_e, cnt_e, raise_e, sif_e, sif1_t, sif1_f, aug_e, unp_e, unp1_o, unp2_o, unp3_o, unpE_ol, unpE_ot, unpE_tu, unpE_li, shs_n, shs_c, sal_n, sal_c, par_e, par1_o, par2_o, for_e, for1_o, lp_n, lp1_o, lp2_n, lp2_c, lp2_b, lp2_r, lp2_x, bind_nm, bind_tt, bind_tl, sr_e, sr1_o, sr2_o, sr3_o, inO_n, inO_c, f_sub, f_add, f_lt, f_le, f_gt, f_ge, f_eq, f_ne, f_neg, f_mod, f_div, f_pow, f_abs, f_len, f_lensc, f_lenl, f_lent, f_max2, f_min2, f_isi_ii, f_isi_ib, tr_b, tr_i, idx_e, idx1_o, at_l, at_t, at_ol, at_ot, at_sc, at_0, at_1, at_2, at_3, at_4, at_5, at_n, shE_s, decide_true, decide_false, mth_e, mth1_o, mth2_o, mth3_o, mth4_o, app_e, clr_e, tn0, tn1, tn2, tn3, tn4, tn5, tn6, tn7, tn8, tn9, tn10, tn11, tn12, at_6, at_7, at_8, at_9, at_10, at_11, at_12, while_e, evB_n, evB_s, eb1_o, eb2_o, sl_e, sl0_o, sl1_o, sl2_o, sl3_o, fSl_sh, fSl_ol, sa_e, sa1_v, sa1_o, sa2_o, itU_l, itU_t, fLi_sh, fLi_tu, fLi_ol, f_sum, f_sumo, rev_sh, rev_ol, isi_lst_l, isi_lst_o, isi_tup_t, fEq_nil, fEq_nilo, viewO_shs, shs_len, iU_len, ax_e, axB_o, ax0_o, ax1_o, ax2_o, ax3_o, ax4_o, ax5_o, at_t0, at_t1, at_t2, bind_t3, omap_n, f_addI, par3_e, par30_o, par31_o, mp_e, pmB_l, pmB_t, pmA_o, pm0_l, pm0_t, pm1_o, pm2_o, pm3_o, pm4_o, bor_e, borT_e, borO_o, borB_o, borO_x, borB_x, vwE_n, vwE_c, vw1_n, vw1_s, vw1_sc, vw1_ol, vw1_ot, vO_s, vO_l, vO_t, vOs_n, vOs_c, vcons_o, frz_e, frzO_o, frz2_o, frzO_x, try_e, try1_n, try1_r, try1_x, tryH_s, lkH, clr_r, clr_n, six_e, six0_o, six01_o, pix_e, pix1_o, pix2_o, ixN_l, six1_o, six2_o, bin1_x, bin2_x, un1_x, evs1_x, evs2_x, cb1_x, call1_x, lst1_x, tup1_x, f_maxD, fNe_nilo, eq_t1, eq_t2, eq_t3, eq_t4, eq_i1, eq_i2, eq_i3, eq_i4, viewOs_shs, ne_i1, ne_i2, ne_i3, ne_i4, ne_t1, ne_t2, ne_t3, ne_t4, ne_b, all_tt, isi_bl_b, forV_e, fv0_ol, fv0_sh, nl0_e, nl1_e, nla_o, nlb_o, nlit_s, keO_y, scO_i, nset_e, nst_o, nset0_e, nset1_o, nset2_s, npix_e, ndAt_y, nget_e, ng0_s, nget1_o, ng1_o, nget2_e, ng2_s, nget3_s, ndO_y, f_lenN, f_keysN, srcIt_e, nwO_y, si1_s, f_intb, f_inti, fTup_sh, fTup_ol, mt1_nd, tkO_nd, nix_e, nin_e, srcKy_e, sky_d, sky_f, nixf_e, src2X_e, s2a_o, s2b_s, sqB_l, sqB_u, zipX_ll, zipX_lt, zipX_tl,
  List.map_cons, List.map_nil, List.cons_append, List.nil_append, List.append_nil, List.replicate_succ, List.replicate_zero, List.getElem?_cons_zero, List.getElem?_cons_succ, List.getElem?_nil, List.set_cons_zero, List.set_cons_succ, List.set_nil, List.length_cons, List.length_nil, Option.getD_some, Option.getD_none, Option.bind_some, Option.some.injEq, reduceIte, Bool.not_true, Bool.not_false, intE] $[$loc]?)
theorem cell_ok (ns : List Int) (k : Nat) : ∃ z : Int, m__law_cell_at [.sc (ns.map PyData.int), .sh (.int k)] = .ok (.sh (.int z)) [some (.sc (ns.map PyData.int)), some (.sh (.int k))] := by
  unfold m__law_cell_at b__law_cell_at
  by_cases h : k < ns.length
  · refine ⟨ns[k], ?_⟩
    have e : (ns.map PyData.int)[k]? = some (.int ns[k]) := by simp [h]
    have h2 : ((k : Int) < ((ns.map PyData.int).length : Nat)) := by simpa using h
    simp_arith only [h2, e]
  · refine ⟨0, ?_⟩
    have h2 : ¬ ((k : Int) < ((ns.map PyData.int).length : Nat)) := by simpa using h
    simp_arith only [h2]
abbrev bg (a b : Int) : O := .ol [.sh (.int a), .sh (.int b)]
theorem bag_ok (c p : Int) : ∃ a b : Int, 0 ≤ a ∧ m__law_bag [.sh (.int c), .sh (.int p)] = .ok (bg a b) [some (.sh (.int c)), some (.sh (.int p))] := by
  generalize hr : m__law_bag _ = r
  unfold m__law_bag b__law_bag at hr
  by_cases h : (if c < 0 then -c else c) < (10 : Int) ^ Int.toNat 18
  · simp_arith only [h] at hr
    subst hr
    exact ⟨_, _, by decide, rfl⟩
  · simp_arith only [h] at hr
    subst hr
    refine ⟨_, _, ?_, rfl⟩
    split <;> omega
theorem mixed_ok (a b : Int) : ∃ r c : Int, m__law_mixed [bg a b] = .ok (.sh (.int r)) [some (bg a c)] := by
  generalize hr : m__law_mixed _ = q
  unfold m__law_mixed b__law_mixed at hr
  simp_arith only [bg] at hr
  subst hr
  exact ⟨_, _, rfl⟩
def Pd (a m : Int) (ρ : Ev) : Prop := ∃ (b f : Int) (k : Option O), ρ = [some (bg a b), some (.sh (.int m)), some (.sh (.int f)), k]
theorem digit_ok (a b m : Int) (ha : 0 ≤ a) (h : 0 < m) (h2 : m.natAbs.log2 < 9000) : ∃ r a' b' : Int, 0 ≤ r ∧ r < m ∧ 0 ≤ a' ∧ m__law_digit [bg a b, .sh (.int m)] = .ok (.sh (.int r)) [some (bg a' b'), some (.sh (.int m))] := by
  generalize hr : m__law_digit _ = q
  unfold m__law_digit b__law_digit at hr
  have h3 : 0 < m ∧ m.natAbs.log2 < 9000 := ⟨h, h2⟩
  by_cases h4 : 0 < a
  · simp_arith only [h4, f_div h3, f_mod h] at hr
    subst hr
    exact ⟨_, _, _, Int.emod_nonneg _ (by omega), Int.emod_lt_of_pos _ h, Int.ediv_nonneg ha (by omega), rfl⟩
  · obtain ⟨r, c, e⟩ := mixed_ok a b
    by_cases h5 : 1000 < m
    · have rg : rngF [7] = some (rngU 0 7) := rfl
      obtain ⟨ρ', e3, b', f, k, rfl⟩ := lpF_nx (t := .nm 3) (body := b__law_digit_1) (Pd a m) (rngU 0 7) (fun u hu ρ hp => by
        obtain ⟨j, hj, rfl⟩ := rngU_mem hu
        obtain ⟨b', f, k, rfl⟩ := hp
        refine ⟨_, rfl, ?_⟩
        obtain ⟨r2, c2, e2⟩ := mixed_ok a b'
        generalize hq : b__law_digit_1 _ = q
        unfold b__law_digit_1 at hq
        simp_arith only [e2] at hq
        subst hq
        exact ⟨_, .inl rfl, _, _, _, rfl⟩) [some (bg a c), some (.sh (.int m)), some (.sh (.int r)), none] ⟨_, _, _, rfl⟩
      simp_arith only [h4, h5, e, rg, e3, f_mod h] at hr
      subst hr
      exact ⟨_, _, _, Int.emod_nonneg _ (by omega), Int.emod_lt_of_pos _ h, ha, rfl⟩
    · simp_arith only [h4, h5, e, f_mod h] at hr
      subst hr
      exact ⟨_, _, _, Int.emod_nonneg _ (by omega), Int.emod_lt_of_pos _ h, ha, rfl⟩
end K76.Bg
namespace K76
open PySem L2 MM Snd Bg
local macro_rules
  | `(tactic| simp_arith only [$xs:simpLemma,*] $[$loc:location]?) => `(tactic| simp (config := {decide := true}) (disch := (first | assumption | decide | omega | (simp only [List.length_cons, List.length_nil, List.length_append]; omega))) only [$xs,*, f_mull, f_mulr, ev_var, ev_ex, agV_e, agE_o, agE_x, oo_v, oo_o, bin_e, bin1_o, bin2_o, bin3_o, un_e, un1_o, un2_o, evs_n, evs_c, evs1_o, evs2_o, oso_n, oso_c, osa_n, osa_c, osa1_o, omap_s, lst_e, lst1_o, lst2_o, tup_e, tup1_o, tup2_o, tup3_s, tup3_n, alls_n, alls_c, alls_l, alls_t, cb_e, cb1_o, cb2_o, call_e, call1_o, call2_o, call3_o, call3_x, take_n, take_v, take_o, tkO_sh, tkO_ol, tkO_ot, tkO_sc, put_n, put_o, put_v, ptO_n, ptO_s, call0_e, call01_o, runF_e, run1_r, run1_n, run1_x, outs_n, outs_t, outs_f, mv_e, mv1_sh, mv1_ol, mv1_ot, mv2_o, mt_e, mt1_sh, mt1_ol, mt1_ot, mC_e, asb_e, asb1_o, asb2_o, ble_b, tru_e, tru1_o, tru2_o, and_e, and1_t, and1_f, or_e, or1_t, or1_f, not_e, not1_o, vand_e, vand1_o, vand2_t, vand2_f, vor_e, vor1_o, vor2_t, vor2_f, vnot_e, vnot1_o, vnot2_o, ife_e, if1_t, if1_f,
  ch_e, ch0_o, ch1_o, ch2_o, ch3_t, ch3_f, ch4_o, cn_e, cn1_o, lk_one, lk_more, lk1_o, lk2_o, lk3_t, lk3_f, seq_e, seq1_n, seq1_r, seq1_b, seq1_c, seq1_x, set_e, set1_o, set1_x, drop_e, drop1_o, drop1_x, ret_e, ret1_o, ret1_x, retN_e, nil_e, brk_e, cnt_e, raise_e, sif_e, sif1_t, sif1_f, aug_e, unp_e, unp1_o, unp2_o, unp3_o, unpE_ol, unpE_ot, unpE_tu, unpE_li, shs_n, shs_c, sal_n, sal_c, par_e, par1_o, par2_o, for_e, for1_o, lp_n, lp1_o, lp2_n, lp2_c, lp2_b, lp2_r, lp2_x, bind_nm, bind_tt, bind_tl, sr_e, sr1_o, sr2_o, sr3_o, inO_n, inO_c, f_sub, f_add, f_lt, f_le, f_gt, f_ge, f_eq, f_ne, f_neg, f_mod, f_div, f_pow, f_abs, f_len, f_lensc, f_lenl, f_lent, f_max2, f_min2, f_isi_ii, f_isi_ib, tr_b, tr_i, idx_e, idx1_o, at_l, at_t, at_ol, at_ot, at_sc, at_0, at_1, at_2, at_3, at_4, at_5, at_n, shE_s, decide_true, decide_false, mth_e, mth1_o, mth2_o, mth3_o, mth4_o, app_e, clr_e, tn0, tn1, tn2, tn3, tn4, tn5, tn6, tn7, tn8, tn9, tn10, tn11, tn12, at_6, at_7, at_8, at_9, at_10, at_11, at_12, while_e, evB_n, evB_s, eb1_o, eb2_o, sl_e, sl0_o, sl1_o, sl2_o, sl3_o, fSl_sh, fSl_ol, sa_e, sa1_v, sa1_o, sa2_o, itU_l, itU_t, fLi_sh, fLi_tu, fLi_ol, f_sum, f_sumo, rev_sh, rev_ol, isi_lst_l, isi_lst_o, isi_tup_t, fEq_nil, fEq_nilo, viewO_shs, shs_len, iU_len, ax_e, axB_o, ax0_o, ax1_o, ax2_o, ax3_o, ax4_o, ax5_o, at_t0, at_t1, at_t2, bind_t3, omap_n, f_addI, par3_e, par30_o, par31_o, mp_e, pmB_l, pmB_t, pmA_o, pm0_l, pm0_t, pm1_o, pm2_o, pm3_o, pm4_o, bor_e, borT_e, borO_o, borB_o, borO_x, borB_x, vwE_n, vwE_c, vw1_n, vw1_s, vw1_sc, vw1_ol, vw1_ot, vO_s, vO_l, vO_t, vOs_n, vOs_c, vcons_o, frz_e, frzO_o, frz2_o, frzO_x, try_e, try1_n, try1_r, try1_x, tryH_s, lkH, clr_r, clr_n, six_e, six0_o, six01_o, pix_e, pix1_o, pix2_o, ixN_l, six1_o, six2_o, bin1_x, bin2_x, un1_x, evs1_x, evs2_x, cb1_x, call1_x, lst1_x, tup1_x, f_maxD, fNe_nilo, eq_t1, eq_t2, eq_t3, eq_t4, eq_i1, eq_i2, eq_i3, eq_i4, viewOs_shs, ne_i1, ne_i2, ne_i3, ne_i4, ne_t1, ne_t2, ne_t3, ne_t4, ne_b, all_tt, isi_bl_b, forV_e, fv0_ol, fv0_sh, nl0_e, nl1_e, nla_o, nlb_o, nlit_s, keO_y, scO_i, nset_e, nst_o, nset0_e, nset1_o, nset2_s, npix_e, ndAt_y, nget_e, ng0_s, nget1_o, ng1_o, nget2_e, ng2_s, nget3_s, ndO_y, f_lenN, f_keysN, srcIt_e, nwO_y, si1_s, f_intb, f_inti, fTup_sh, fTup_ol, mt1_nd, tkO_nd, nix_e, nin_e, srcKy_e, sky_d, sky_f, nixf_e, src2X_e, s2a_o, s2b_s, sqB_l, sqB_u, zipX_ll, zipX_lt, zipX_tl,
  List.map_cons, List.map_nil, List.cons_append, List.nil_append, List.append_nil, List.replicate_succ, List.replicate_zero, List.getElem?_cons_zero, List.getElem?_cons_succ, List.getElem?_nil, List.set_cons_zero, List.set_cons_succ, List.set_nil, List.length_cons, List.length_nil, Option.getD_some, Option.getD_none, Option.bind_some, Option.some.injEq, reduceIte, Bool.not_true, Bool.not_false, intE] $[$loc]?)
theorem rngS_get (i j d : Int) (i0 : 0 ≤ i) (ij : i ≤ j) (j1 : j ≤ 1000) (d1 : 1 ≤ d) (d9 : d ≤ 9) : ∃ n : Nat, rngS [i, j, d] = some (rngC i d n) ∧ n ≤ 1001 ∧ ∀ m : Nat, m < n → i + m * d < j := by
  by_cases c : i < j
  · have s : Builtin.Range.rangeSize i j d = (j - i - 1) / d + 1 := by
      unfold Builtin.Range.rangeSize
      rw [if_pos (by omega), if_pos c]
    have z0 : 0 ≤ (j - i - 1) / d := Int.ediv_nonneg (by omega) (by omega)
    have z1 : (j - i - 1) / d ≤ j - i - 1 := Int.ediv_le_self _ (by omega)
    have z2 : (j - i - 1) / d * d ≤ j - i - 1 := Int.ediv_mul_le _ (by omega)
    generalize hz : (j - i - 1) / d = z at *
    have sm : Builtin.Range.small i j d = true := by
      unfold Builtin.Range.small
      rw [s]
      unfold Builtin.Range.rangeFitsLong
      simp only [Bool.and_eq_true, Bool.or_eq_true, decide_eq_true_eq, beq_iff_eq]
      rw [if_pos (by omega)]
      simp only [Bool.and_eq_true, decide_eq_true_eq]
      omega
    refine ⟨(z + 1).toNat, ?_, by omega, fun m hm => ?_⟩
    · unfold rngS
      simp only
      rw [if_pos ⟨by omega, by omega, sm, by rw [s]; omega⟩, s]
    · have : (m : Int) * d ≤ z * d := Int.mul_le_mul_of_nonneg_right (by omega) (by omega)
      omega
  · have s : Builtin.Range.rangeSize i j d = 0 := by
      unfold Builtin.Range.rangeSize
      rw [if_pos (by omega), if_neg c]
    have sm : Builtin.Range.small i j d = true := by
      unfold Builtin.Range.small
      rw [s]
      unfold Builtin.Range.rangeFitsLong
      simp only [Bool.and_eq_true, Bool.or_eq_true, decide_eq_true_eq, beq_iff_eq]
      refine ⟨⟨⟨⟨?_, ?_⟩, ?_⟩, ?_⟩, .inl trivial⟩ <;> omega
    refine ⟨0, ?_, by omega, fun m hm => absurd hm (Nat.not_lt_zero _)⟩
    unfold rngS
    simp only
    rw [if_pos ⟨by omega, by omega, sm, by rw [s]; omega⟩, s]
    rfl
theorem l_loop (es : List En) (x0 x2 x3 : Option O) (d : Int) : ∀ (n : Nat) (i : Int) (acc : List En) (x5 : Option O), (∀ m : Nat, m < n → 0 ≤ i + m * d ∧ i + m * d < es.length) → acc.length + n ≤ 100000 →
    ∃ fs y5, (∀ f ∈ fs, f ∈ es) ∧ fs.length = n ∧ lpF (.nm 5) b__law_left_1 (rngC i d n) [x0, some (.sh (.list (es.map eU))), x2, x3, some (.ol (shs (acc.map eU))), x5] = .nx [x0, some (.sh (.list (es.map eU))), x2, x3, some (.ol (shs ((acc ++ fs).map eU))), y5]
  | 0, i, acc, x5, _, _ => ⟨[], x5, (fun f h => nomatch h), rfl, by rw [List.append_nil]; rfl⟩
  | n + 1, i, acc, x5, h, hl => by
    have h0 := h 0 (by omega)
    rw [Int.natCast_zero, Int.zero_mul, Int.add_zero] at h0
    obtain ⟨k, rfl⟩ := Int.eq_ofNat_of_zero_le h0.1
    have hk : k < es.length := by omega
    have g : es[k]? = some es[k] := List.getElem?_eq_getElem hk
    generalize he : es[k] = e at *
    obtain ⟨fs, y5, q1, q2, ih⟩ := l_loop es x0 x2 x3 d n ((k : Int) + d) (acc ++ [e]) (some (.sh (.int k))) (fun m hm => by
      have := h (m + 1) (by omega)
      rw [Int.natCast_add, Int.add_mul] at this
      have e1 : ((1 : Nat) : Int) * d = d := by rw [Int.natCast_one, Int.one_mul]
      rw [e1] at this
      omega) (by rw [List.length_append, List.length_singleton]; omega)
    refine ⟨e :: fs, y5, fun f hf => ?_, by rw [List.length_cons, q2], ?_⟩
    · rcases List.mem_cons.mp hf with rfl | hf
      · exact List.mem_of_getElem? g
      · exact q1 f hf
    · have AT : at' (es.map eU) (k : Nat) = some (.tuple [lT e.1, lT e.2]) := by rw [at_n, List.getElem?_map, g]; rfl
      have FL : ∀ (ts : List T3) ρ, fList [.sh (.list (tUs ts))] ρ = .ok (.ol (shs (tUs ts))) ρ := fun ts ρ => rfl
      have VO : viewO (.ot [.ol (shs (tUs e.1)), .ol (shs (tUs e.2))]) = some (.tuple [.list (tUs e.1), .list (tUs e.2)]) := by
        simp only [viewO, viewOs, viewOs_shs]
      have sa : shs (acc.map eU) ++ [.sh (.tuple [.list (tUs e.1), .list (tUs e.2)])] = shs ((acc ++ [e]).map eU) := by
        unfold shs
        rw [List.map_append, List.map_append]
        rfl
      have z1 : (shs (acc.map eU)).length < 16777216 := by rw [shs_len, List.length_map]; omega
      have B : b__law_left_1 [x0, some (.sh (.list (es.map eU))), x2, x3, some (.ol (shs (acc.map eU))), some (.sh (.int k))] = .nx [x0, some (.sh (.list (es.map eU))), x2, x3, some (.ol (shs ((acc ++ [e]).map eU))), some (.sh (.int k))] := by
        rw [← sa]
        generalize hq : b__law_left_1 _ = q
        unfold b__law_left_1 at hq
        generalize es.map eU = us at *
        generalize shs (acc.map eU) = vs at *
        simp_arith only [AT, FL, frz_e, VO, z1, frzO] at hq
        exact hq.symm
      show lpF _ _ (.int (k : Int) :: rngC ((k : Int) + d) d n) _ = _
      rw [lp_go (ρ1 := [x0, some (.sh (.list (es.map eU))), x2, x3, some (.ol (shs (acc.map eU))), some (.sh (.int k))]) rfl, B, lp2_n, ih, List.append_assoc]
      rfl
theorem left_ok (a b : Int) (es : List En) (ha : 0 ≤ a) (hl : es.length ≤ 600) : ∃ (a' b' : Int) (fs : List En), 0 ≤ a' ∧ (∀ f ∈ fs, f ∈ es) ∧ fs.length ≤ 1001 ∧ m__law_left [bg a b, .sh (.list (es.map eU))] = .ok (.ol (shs (fs.map eU))) [some (bg a' b'), some (.sh (.list (es.map eU)))] := by
  obtain ⟨r1, a1, b1, p1, q1, g1, e1⟩ := digit_ok a b 9 ha (by decide) (by decide)
  obtain ⟨r2, a2, b2, p2, q2, g2, e2⟩ := digit_ok a1 b1 ((es.length : Nat) + 1) g1 (by omega) (lg64 (by omega))
  obtain ⟨r3, a3, b3, p3, q3, g3, e3⟩ := digit_ok a2 b2 2 g2 (by decide) (by decide)
  obtain ⟨n, R, n1, hm⟩ := rngS_get r2 (es.length : Nat) (1 + r1) p2 (by omega) (by omega) (by omega) (by omega)
  obtain ⟨fs, y5, fa, fb, L⟩ := l_loop es (some (bg a2 b2)) (some (.sh (.int (1 + r1)))) (some (.sh (.int r2))) (1 + r1) n r2 [] none (fun m hmn => ⟨by
    have : 0 ≤ (m : Int) * (1 + r1) := Int.mul_nonneg (by omega) (by omega)
    omega, hm m hmn⟩) (by simp; omega)
  rw [List.nil_append, List.map_nil] at L
  have LN : (es.map eU).length = es.length := List.length_map _
  have Q : srcS [(.var 3), (.ex (mCB (f1 lenO) [(.var 1)])), (.var 2)] [some (bg a2 b2), some (.sh (.list (es.map eU))), some (.sh (.int (1 + r1))), some (.sh (.int r2)), some (.ol []), none] = .ok (rngC r2 (1 + r1) n) [some (bg a2 b2), some (.sh (.list (es.map eU))), some (.sh (.int (1 + r1))), some (.sh (.int r2)), some (.ol []), none] := by
    rw [← LN] at R
    generalize es.map eU = us at *
    show (match rngS [r2, (us.length : Nat), 1 + r1] with
      | some us => MM.R.ok us _
      | none => .bad) = _
    rw [R]
  have L' : lpF (.nm 5) b__law_left_1 (rngC r2 (1 + r1) n) [some (bg a2 b2), some (.sh (.list (es.map eU))), some (.sh (.int (1 + r1))), some (.sh (.int r2)), some (.ol []), none] = _ := L
  by_cases c : r3 = 1
  · refine ⟨a3, b3, fs.reverse, g3, fun f hf => fa f (List.mem_reverse.mp hf), by rw [List.length_reverse]; omega, ?_⟩
    have RV : fRev (shs (fs.map eU)) [] = some (.sh .none, shs (fs.reverse.map eU)) := by
      simp only [fRev, allSh_shs]
      rw [List.map_reverse]
    generalize hq : m__law_left _ = q
    unfold m__law_left b__law_left at hq
    generalize es.map eU = us at *
    simp_arith only [e1, e2, LN, Q, L', e3, c, RV] at hq
    exact hq.symm
  · refine ⟨a3, b3, fs, g3, fa, by omega, ?_⟩
    generalize hq : m__law_left _ = q
    unfold m__law_left b__law_left at hq
    generalize es.map eU = us at *
    simp_arith only [e1, e2, LN, Q, L', e3, c] at hq
    exact hq.symm
theorem cut_hi (us : List U) (n : Nat) : cutU us (some ((n : Nat) : Int)) none = us.drop n := by
  unfold cutU
  rw [HT.sIx_none, HT.sIx_nat]
  by_cases h : n ≤ us.length
  · rw [Nat.min_eq_left h, List.take_of_length_le (by rw [List.length_drop]; exact Nat.le_refl _)]
  · rw [Nat.min_eq_right (by omega), Nat.sub_self, List.take_zero, List.drop_of_length_le (by omega)]
theorem odd_at (d far r : Int) (h0 : 0 ≤ r) (h8 : r < 8) : ∃ t : T3, at' [O.sh (.tuple [.int 1, .int (d + 1), .int 1]), .sh (.tuple [.int 2, .int 1, .int 1]), .sh (.tuple [.int 1, .int 1, .int 1]), .sh (.tuple [.int 1, .int 2, .int 0]), .sh (.tuple [.int 1, .int 2, .int (0 - far)]), .sh (.tuple [.int 0, .int 1, .int 1]), .sh (.tuple [.int far, .int far, .int 0]), .sh (.tuple [.int 1, .int 2, .int far])] r = some (.sh (tU t)) := by
  have : r = 0 ∨ r = 1 ∨ r = 2 ∨ r = 3 ∨ r = 4 ∨ r = 5 ∨ r = 6 ∨ r = 7 := by omega
  rcases this with h | h | h | h | h | h | h | h <;> subst h
  · exact ⟨(1, d + 1, 1), rfl⟩
  · exact ⟨(2, 1, 1), rfl⟩
  · exact ⟨(1, 1, 1), rfl⟩
  · exact ⟨(1, 2, 0), rfl⟩
  · exact ⟨(1, 2, 0 - far), rfl⟩
  · exact ⟨(0, 1, 1), rfl⟩
  · exact ⟨(far, far, 0), rfl⟩
  · exact ⟨(1, 2, far), rfl⟩
theorem odd_row_ok (a b d : Int) (row : List T3) (ha : 0 ≤ a) (hl : row.length ≤ 1000) : ∃ (a' b' : Int) (row' : List T3), 0 ≤ a' ∧ row'.length ≤ row.length + 1 ∧ m__law_odd_row [bg a b, to row, .sh (.int d)] = .ok (to row') [some (bg a' b'), some (to row), some (.sh (.int d))] := by
  have e20 : (10 : Int) ^ Int.toNat 20 = 100000000000000000000 := by decide
  obtain ⟨f, a1, b1, p1, q1, g1, e1⟩ := digit_ok a b 100000000000000000000 ha (by decide) (by decide +kernel)
  obtain ⟨r2, a2, b2, p2, q2, g2, e2⟩ := digit_ok a1 b1 ((row.length : Nat) + 1) g1 (by omega) (lg64 (by omega))
  obtain ⟨r3, a3, b3, p3, q3, g3, e3⟩ := digit_ok a2 b2 8 g2 (by decide) (by decide)
  obtain ⟨r4, a4, b4, p4, q4, g4, e4⟩ := digit_ok a3 b3 2 g3 (by decide) (by decide)
  obtain ⟨t, AT⟩ := odd_at d (61 + f) r3 p3 q3
  obtain ⟨i, rfl⟩ := Int.eq_ofNat_of_zero_le p2
  obtain ⟨j, rfl⟩ := Int.eq_ofNat_of_zero_le p4
  have C1 := cut_lo (tUs row) i
  have C2 := cut_hi (tUs row) (i + j)
  rw [Int.natCast_add] at C2
  have ln : (shs (tUs row)).length = row.length := by rw [shs_len, tUs_len]
  have TL : (tUs row).length = row.length := tUs_len
  have t1 : tUs (row.take i) = (tUs row).take i := by unfold tUs; rw [List.map_take]
  have t2 : tUs (row.drop (i + j)) = (tUs row).drop (i + j) := by unfold tUs; rw [List.map_drop]
  have AD1 : ∀ ρ, fAdd (.ol (shs ((tUs row).take i))) (.ol [.sh (tU t)]) ρ = .ok (.ol (shs (tUs (row.take i ++ [t])))) ρ := fun ρ => by
    rw [← t1]
    exact add_oo (row.take i) [t] ρ (by rw [List.length_take]; simp; omega)
  have AD2 : ∀ ρ, fAdd (.ol (shs (tUs (row.take i ++ [t])))) (.ol (shs ((tUs row).drop (i + j)))) ρ = .ok (.ol (shs (tUs ((row.take i ++ [t]) ++ row.drop (i + j))))) ρ := fun ρ => by
    rw [← t2]
    exact add_oo _ _ ρ (by rw [List.length_append, List.length_take, List.length_drop]; simp; omega)
  refine ⟨a4, b4, (row.take i ++ [t]) ++ row.drop (i + j), g4, by rw [List.length_append, List.length_append, List.length_take, List.length_drop]; simp; omega, ?_⟩
  unfold to
  generalize hq : m__law_odd_row _ = q
  unfold m__law_odd_row b__law_odd_row at hq
  generalize tUs (row.take i ++ [t] ++ row.drop (i + j)) = us2 at *
  generalize tU t = w at *
  generalize tUs row = us at *
  simp_arith only [e20, e1, ln, TL, e2, C1, e3, AT, AD1, e4, C2, AD2] at hq
  exact hq.symm
end K76
set_option maxRecDepth 1000000
set_option maxHeartbeats 1000000
namespace K76
open PySem L2 MM Snd Bg
local macro_rules
  | `(tactic| simp_arith only [$xs:simpLemma,*] $[$loc:location]?) => `(tactic| simp (config := {decide := true}) (disch := (first | assumption | decide | omega | (simp only [List.length_cons, List.length_nil, List.length_append]; omega))) only [$xs,*, f_mull, f_mulr, ev_var, ev_ex, agV_e, agE_o, agE_x, oo_v, oo_o, bin_e, bin1_o, bin2_o, bin3_o, un_e, un1_o, un2_o, evs_n, evs_c, evs1_o, evs2_o, oso_n, oso_c, osa_n, osa_c, osa1_o, omap_s, lst_e, lst1_o, lst2_o, tup_e, tup1_o, tup2_o, tup3_s, tup3_n, alls_n, alls_c, alls_l, alls_t, cb_e, cb1_o, cb2_o, call_e, call1_o, call2_o, call3_o, call3_x, take_n, take_v, take_o, tkO_sh, tkO_ol, tkO_ot, tkO_sc, put_n, put_o, put_v, ptO_n, ptO_s, call0_e, call01_o, runF_e, run1_r, run1_n, run1_x, outs_n, outs_t, outs_f, mv_e, mv1_sh, mv1_ol, mv1_ot, mv2_o, mt_e, mt1_sh, mt1_ol, mt1_ot, mC_e, asb_e, asb1_o, asb2_o, ble_b, tru_e, tru1_o, tru2_o, and_e, and1_t, and1_f, or_e, or1_t, or1_f, not_e, not1_o, vand_e, vand1_o, vand2_t, vand2_f, vor_e, vor1_o, vor2_t, vor2_f, vnot_e, vnot1_o, vnot2_o, ife_e, if1_t, if1_f,
  ch_e, ch0_o, ch1_o, ch2_o, ch3_t, ch3_f, ch4_o, cn_e, cn1_o, lk_one, lk_more, lk1_o, lk2_o, lk3_t, lk3_f, seq_e, seq1_n, seq1_r, seq1_b, seq1_c, seq1_x, set_e, set1_o, set1_x, drop_e, drop1_o, drop1_x, ret_e, ret1_o, ret1_x, retN_e, nil_e, brk_e, cnt_e, raise_e, sif_e, sif1_t, sif1_f, aug_e, unp_e, unp1_o, unp2_o, unp3_o, unpE_ol, unpE_ot, unpE_tu, unpE_li, shs_n, shs_c, sal_n, sal_c, par_e, par1_o, par2_o, for_e, for1_o, lp_n, lp1_o, lp2_n, lp2_c, lp2_b, lp2_r, lp2_x, bind_nm, bind_tt, bind_tl, sr_e, sr1_o, sr2_o, sr3_o, inO_n, inO_c, f_sub, f_add, f_lt, f_le, f_gt, f_ge, f_eq, f_ne, f_neg, f_mod, f_div, f_pow, f_abs, f_len, f_lensc, f_lenl, f_lent, f_max2, f_min2, f_isi_ii, f_isi_ib, tr_b, tr_i, idx_e, idx1_o, at_l, at_t, at_ol, at_ot, at_sc, at_0, at_1, at_2, at_3, at_4, at_5, at_n, shE_s, decide_true, decide_false, mth_e, mth1_o, mth2_o, mth3_o, mth4_o, app_e, clr_e, tn0, tn1, tn2, tn3, tn4, tn5, tn6, tn7, tn8, tn9, tn10, tn11, tn12, at_6, at_7, at_8, at_9, at_10, at_11, at_12, while_e, evB_n, evB_s, eb1_o, eb2_o, sl_e, sl0_o, sl1_o, sl2_o, sl3_o, fSl_sh, fSl_ol, sa_e, sa1_v, sa1_o, sa2_o, itU_l, itU_t, fLi_sh, fLi_tu, fLi_ol, f_sum, f_sumo, rev_sh, rev_ol, isi_lst_l, isi_lst_o, isi_tup_t, fEq_nil, fEq_nilo, viewO_shs, shs_len, iU_len, ax_e, axB_o, ax0_o, ax1_o, ax2_o, ax3_o, ax4_o, ax5_o, at_t0, at_t1, at_t2, bind_t3, omap_n, f_addI, par3_e, par30_o, par31_o, mp_e, pmB_l, pmB_t, pmA_o, pm0_l, pm0_t, pm1_o, pm2_o, pm3_o, pm4_o, bor_e, borT_e, borO_o, borB_o, borO_x, borB_x, vwE_n, vwE_c, vw1_n, vw1_s, vw1_sc, vw1_ol, vw1_ot, vO_s, vO_l, vO_t, vOs_n, vOs_c, vcons_o, frz_e, frzO_o, frz2_o, frzO_x, try_e, try1_n, try1_r, try1_x, tryH_s, lkH, clr_r, clr_n, six_e, six0_o, six01_o, pix_e, pix1_o, pix2_o, ixN_l, six1_o, six2_o, bin1_x, bin2_x, un1_x, evs1_x, evs2_x, cb1_x, call1_x, lst1_x, tup1_x, f_maxD, fNe_nilo, eq_t1, eq_t2, eq_t3, eq_t4, eq_i1, eq_i2, eq_i3, eq_i4, viewOs_shs, ne_i1, ne_i2, ne_i3, ne_i4, ne_t1, ne_t2, ne_t3, ne_t4, ne_b, all_tt, isi_bl_b, forV_e, fv0_ol, fv0_sh, nl0_e, nl1_e, nla_o, nlb_o, nlit_s, keO_y, scO_i, nset_e, nst_o, nset0_e, nset1_o, nset2_s, npix_e, ndAt_y, nget_e, ng0_s, nget1_o, ng1_o, nget2_e, ng2_s, nget3_s, ndO_y, f_lenN, f_keysN, srcIt_e, nwO_y, si1_s, f_intb, f_inti, fTup_sh, fTup_ol, mt1_nd, tkO_nd, nix_e, nin_e, srcKy_e, sky_d, sky_f, nixf_e, src2X_e, s2a_o, s2b_s, sqB_l, sqB_u, zipX_ll, zipX_lt, zipX_tl,
  List.map_cons, List.map_nil, List.cons_append, List.nil_append, List.append_nil, List.replicate_succ, List.replicate_zero, List.getElem?_cons_zero, List.getElem?_cons_succ, List.getElem?_nil, List.set_cons_zero, List.set_cons_succ, List.set_nil, List.length_cons, List.length_nil, Option.getD_some, Option.getD_none, Option.bind_some, Option.some.injEq, reduceIte, Bool.not_true, Bool.not_false, intE] $[$loc]?)
theorem bst {m : MS} {n : BS} {os : List O} {j : Nat} {ρ ρ1 : Ev} (h : m ρ = .nx ρ1) : bStep m n os j ρ = n os j ρ1 := by unfold bStep; rw [h]
theorem bif_t {t : Ev → MM.R Bool} {m n : BS} {os : List O} {j : Nat} {ρ ρ1 : Ev} (h : t ρ = .ok true ρ1) : bIf t m n os j ρ = m os j ρ1 := by unfold bIf; rw [h]
theorem bif_f {t : Ev → MM.R Bool} {m n : BS} {os : List O} {j : Nat} {ρ ρ1 : Ev} (h : t ρ = .ok false ρ1) : bIf t m n os j ρ = n os j ρ1 := by unfold bIf; rw [h]
theorem set_F (es : List En) (j : Nat) (e : En) : (es.map eF).set j (.ot [.ol (shs (tUs e.1)), .ol (shs (tUs e.2))]) = (es.set j e).map eF := by rw [List.map_set]; rfl
theorem set_T (A : List T3) (i : Nat) (t : T3) : (shs (tUs A)).set i (.sh (tU t)) = shs (tUs (A.set i t)) := by unfold shs tUs; rw [List.map_set, List.map_set]
def Bd (e : En) : Prop := e.1.length ≤ 100 ∧ e.2.length ≤ 100
theorem bd_set {es : List En} {j : Nat} {e : En} (h : ∀ f ∈ es, Bd f) (he : Bd e) : ∀ f ∈ es.set j e, Bd f := fun f hf => by
  rcases List.mem_or_eq_of_mem_set hf with q | q
  · exact h f q
  · rw [q]; exact he
def ways : BS := (bIf (asB (mBin fEq (.var 7) (.ex (mC (.int 0)))))
  (bApp 3 5 6 (mTup [(.ex (mCB fList [(.var 5)])), (.ex (mCB fList [(.var 6)]))]))
  (bIf (asB (mBin fEq (.var 7) (.ex (mC (.int 1)))))
  (bStep (sSet 10 (mBin fIdx (.var 6) (.var 8)))
  (bStep (sSetIx 6 (.var 8) (mBin fIdx (.var 6) (.var 9)))
  (bStep (sSetIx 6 (.var 9) (mVar 10))
  (bBack 3 5 6))))
  (bIf (asB (mBin fEq (.var 7) (.ex (mC (.int 2)))))
  (bStep (sDrop (mMth 6 fRem [(.ex (mBin fIdx (.var 6) (.var 8)))]))
  (bBack 3 5 6))
  (bIf (asB (mBin fEq (.var 7) (.ex (mC (.int 3)))))
  (bStep (sDrop (mMth 6 fIns [(.ex (mVar 9)), (.ex (mBin fIdx (.var 6) (.var 8)))]))
  (bBack 3 5 6))
  (bIf (asB (mBin fEq (.var 7) (.ex (mC (.int 4)))))
  (bPut 3 4 (mTup [(.ex (mCall m__law_odd_row [(.var 0), (.var 5), (.var 2)])), (.ex (mTake 6))]))
  (bIf (asB (mBin fEq (.var 7) (.ex (mC (.int 5)))))
  (bPut 3 4 (mTup [(.ex (mCB revO [(.var 5)])), (.ex (mTake 6))]))
  (bPut 3 4 (mTup [(.ex (mTake 5)), (.ex (mCall m__law_odd_row [(.var 0), (.var 6), (.var 2)]))]))))))))
theorem test_ok (x0 x1 x2 x3 x4 x5 x6 x8 x9 x10 x11 : Option O) (w c : Int) : asB (mBin fEq (.var 7) (.ex (mC (.int c)))) [x0, x1, x2, x3, x4, x5, x6, some (.sh (.int w)), x8, x9, x10, x11] = .ok (decide (w = c)) [x0, x1, x2, x3, x4, x5, x6, some (.sh (.int w)), x8, x9, x10, x11] := by
  simp_arith only [Nat.add_zero]
theorem ix_nat {n i : Nat} (h : i < n) : ixN n (i : Nat) = some i := by
  have := ixN_l (n := n) (x := (i : Int)) (by omega) (by omega)
  rwa [Int.toNat_natCast] at this
theorem back_ok (x0 x1 x2 x3 x4 x7 x8 x9 x10 x11 : Option O) (es : List En) (j : Nat) (e : En) : bBack 3 5 6 (es.map eF) j [x0, x1, x2, x3, x4, some (to e.1), some (to e.2), x7, x8, x9, x10, x11] = .nx [x0, x1, x2, some (.ol ((es.set j e).map eF)), x4, none, none, x7, x8, x9, x10, x11] := by
  rw [← set_F]
  rfl
theorem put_ok (x0 x1 x2 x3 x4 x5 x6 x7 x8 x9 x10 x11 y0 y1 y2 y3 y5 y6 y7 y8 y9 y10 y11 : Option O) (m : ME) (es : List En) (j : Nat) (hj : j < es.length) (e : En)
    (h : m [x0, x1, x2, x3, x4, x5, x6, x7, x8, x9, x10, x11] = .ok (eF e) [y0, y1, y2, y3, some (.sh (.int (j : Nat))), y5, y6, y7, y8, y9, y10, y11]) :
    bPut 3 4 m (es.map eF) j [x0, x1, x2, x3, x4, x5, x6, x7, x8, x9, x10, x11] = .nx [y0, y1, y2, some (.ol ((es.set j e).map eF)), some (.sh (.int (j : Nat))), y5, y6, y7, y8, y9, y10, y11] := by
  unfold bPut
  rw [h]
  have i : ixN (es.map eF).length ((j : Nat) : Int) = some j := ix_nat (by rw [List.length_map]; exact hj)
  show (if ixN (es.map eF).length ((j : Nat) : Int) = some j then _ else _) = _
  rw [if_pos i, List.map_set]
  rfl
theorem ways_ok (a b d : Int) (x1 : Option O) (es : List En) (j : Nat) (e : En) (hj : es[j]? = some e) (w : Int) (s o : Nat) (ha : 0 ≤ a) (h0 : 0 ≤ w) (h7 : w < 7) (hs : s < e.2.length) (ho : o < e.2.length) (hb : ∀ f ∈ es, f.1.length ≤ 60 ∧ f.2.length ≤ 60) (hl : es.length ≤ 100) :
    ∃ (a' b' : Int) (es' : List En) (y4 y5 y6 y7 y8 y9 y10 y11 : Option O), (∀ f ∈ es', Bd f) ∧ es'.length ≤ 200 ∧
      ways (es.map eF) j [some (bg a b), x1, some (.sh (.int d)), none, some (.sh (.int (j : Nat))), some (to e.1), some (to e.2), some (.sh (.int w)), some (.sh (.int (s : Nat))), some (.sh (.int (o : Nat))), none, none] =
        .nx [some (bg a' b'), x1, some (.sh (.int d)), some (.ol (es'.map eF)), y4, y5, y6, y7, y8, y9, y10, y11] := by
  have hm := List.mem_of_getElem? hj
  have hjl : j < es.length := (List.getElem?_eq_some_iff.mp hj).1
  have be := hb e hm
  have hb' : ∀ f ∈ es, Bd f := fun f hf => ⟨by have := (hb f hf).1; omega, by have := (hb f hf).2; omega⟩
  obtain ⟨D, M⟩ := e
  simp only at hs ho be
  have gs : M[s]? = some M[s] := List.getElem?_eq_getElem hs
  have go : M[o]? = some M[o] := List.getElem?_eq_getElem ho
  have AS : at' (shs (tUs M)) (s : Nat) = some (.sh (tU M[s])) := by rw [at_n]; unfold shs tUs; rw [List.getElem?_map, List.getElem?_map, gs]; rfl
  have AO : at' (shs (tUs M)) (o : Nat) = some (.sh (tU M[o])) := by rw [at_n]; unfold shs tUs; rw [List.getElem?_map, List.getElem?_map, go]; rfl
  have LM : (shs (tUs M)).length = M.length := by rw [shs_len, tUs_len]
  have FLo : ∀ (ts : List T3) ρ, fList [.ol (shs (tUs ts))] ρ = .ok (.ol (shs (tUs ts))) ρ := fun ts ρ => fLi_ol
  unfold ways
  have T := fun c => test_ok (some (bg a b)) x1 (some (.sh (.int d))) none (some (.sh (.int (j : Nat)))) (some (to D)) (some (to M)) (some (.sh (.int (s : Nat)))) (some (.sh (.int (o : Nat)))) none none w c
  by_cases c0 : w = 0
  · rw [bif_t (by rw [T 0, decide_eq_true c0])]
    refine ⟨a, b, es ++ [(D, M)], some (.sh (.int (j : Nat))), none, none, some (.sh (.int w)), some (.sh (.int (s : Nat))), some (.sh (.int (o : Nat))), none, none, fun f hf => ?_, by simp; omega, ?_⟩
    · rcases List.mem_append.mp hf with q | q
      · exact hb' f q
      · rw [List.mem_singleton.mp q]; exact hb' _ hm
    · have E : (mTup [(.ex (mCB fList [(.var 5)])), (.ex (mCB fList [(.var 6)]))]) [some (bg a b), x1, some (.sh (.int d)), none, some (.sh (.int (j : Nat))), some (to D), some (to M), some (.sh (.int w)), some (.sh (.int (s : Nat))), some (.sh (.int (o : Nat))), none, none] = .ok (eF (D, M)) [some (bg a b), x1, some (.sh (.int d)), none, some (.sh (.int (j : Nat))), some (to D), some (to M), some (.sh (.int w)), some (.sh (.int (s : Nat))), some (.sh (.int (o : Nat))), none, none] := by
        unfold eF
        simp_arith only [FLo]
      have z : (es.map eF).length < 16777216 := by rw [List.length_map]; omega
      have S : (es.map eF).set j (.ot [.ol (shs (tUs D)), .ol (shs (tUs M))]) ++ [eF (D, M)] = (es ++ [(D, M)]).map eF := by
        rw [set_F es j (D, M), List.map_append]
        congr 2
        apply List.ext_getElem?
        intro i
        by_cases hi : j = i
        · subst hi; rw [List.getElem?_set_self hjl, hj]
        · rw [List.getElem?_set_ne hi]
      rw [← S]
      unfold bApp
      rw [E]
      show (if (es.map eF).length < 16777216 then _ else _) = _
      rw [if_pos z]
      rfl
  · rw [bif_f (by rw [T 0, decide_eq_false c0])]
    by_cases c1 : w = 1
    · rw [bif_t (by rw [T 1, decide_eq_true c1])]
      have W1 := set_T M s M[o]
      have W2 := set_T (M.set s M[o]) o M[s]
      have LM2 : (shs (tUs (M.set s M[o]))).length = M.length := by rw [shs_len, tUs_len, List.length_set]
      have I1 := ix_nat hs
      have I2 := ix_nat ho
      generalize hts : M[s] = ts at *
      generalize hto : M[o] = tt at *
      refine ⟨a, b, es.set j (D, (M.set s tt).set o ts), some (.sh (.int (j : Nat))), none, none, some (.sh (.int w)), some (.sh (.int (s : Nat))), some (.sh (.int (o : Nat))), some (.sh (tU ts)), none, bd_set hb' ⟨by simp only; omega, by simp only [List.length_set]; omega⟩, by rw [List.length_set]; omega, ?_⟩
      rw [bst (ρ1 := [some (bg a b), x1, some (.sh (.int d)), none, some (.sh (.int (j : Nat))), some (to D), some (to M), some (.sh (.int w)), some (.sh (.int (s : Nat))), some (.sh (.int (o : Nat))), some (.sh (tU ts)), none]) (by simp_arith only [AS]),
        bst (ρ1 := [some (bg a b), x1, some (.sh (.int d)), none, some (.sh (.int (j : Nat))), some (to D), some (to (M.set s tt)), some (.sh (.int w)), some (.sh (.int (s : Nat))), some (.sh (.int (o : Nat))), some (.sh (tU ts)), none]) (by unfold to; simp_arith only [AO, LM, I1, W1]),
        bst (ρ1 := [some (bg a b), x1, some (.sh (.int d)), none, some (.sh (.int (j : Nat))), some (to D), some (to ((M.set s tt).set o ts)), some (.sh (.int w)), some (.sh (.int (s : Nat))), some (.sh (.int (o : Nat))), some (.sh (tU ts)), none]) (by unfold to; simp_arith only [LM2, I2, W2])]
      exact back_ok _ _ _ _ _ _ _ _ _ _ es j (D, (M.set s tt).set o ts)
    · rw [bif_f (by rw [T 1, decide_eq_false c1])]
      by_cases c2 : w = 2
      · rw [bif_t (by rw [T 2, decide_eq_true c2])]
        have R := rem_t (List.getElem_mem hs)
        generalize hts : M[s] = ts at *
        refine ⟨a, b, es.set j (D, M.erase ts), some (.sh (.int (j : Nat))), none, none, some (.sh (.int w)), some (.sh (.int (s : Nat))), some (.sh (.int (o : Nat))), none, none, bd_set hb' ⟨by simp only; omega, by simp only; have := List.length_erase_le (a := ts) (l := M); omega⟩, by rw [List.length_set]; omega, ?_⟩
        rw [bst (ρ1 := [some (bg a b), x1, some (.sh (.int d)), none, some (.sh (.int (j : Nat))), some (to D), some (to (M.erase ts)), some (.sh (.int w)), some (.sh (.int (s : Nat))), some (.sh (.int (o : Nat))), none, none]) (by unfold to; simp_arith only [AS, R])]
        exact back_ok _ _ _ _ _ _ _ _ _ _ es j (D, M.erase ts)
      · rw [bif_f (by rw [T 2, decide_eq_false c2])]
        by_cases c3 : w = 3
        · rw [bif_t (by rw [T 3, decide_eq_true c3])]
          generalize hts : M[s] = ts at *
          have IN : fIns (shs (tUs M)) [.sh (.int (o : Nat)), .sh (tU ts)] = some (.sh .none, shs (tUs (M.take o ++ ts :: M.drop o))) := by
            have z : (shs (tUs M)).length < 16777216 ∧ (0 : Int) ≤ (o : Nat) ∧ ((o : Nat) : Int) < 9223372036854775808 := ⟨by rw [LM]; omega, by omega, by omega⟩
            simp only [fIns]
            rw [if_pos z, Int.toNat_natCast]
            unfold shs tUs
            rw [List.map_append, List.map_append, List.map_cons, List.map_cons, List.map_take, List.map_take, List.map_drop, List.map_drop]
          refine ⟨a, b, es.set j (D, M.take o ++ ts :: M.drop o), some (.sh (.int (j : Nat))), none, none, some (.sh (.int w)), some (.sh (.int (s : Nat))), some (.sh (.int (o : Nat))), none, none, bd_set hb' ⟨by simp only; omega, by simp only [List.length_append, List.length_cons, List.length_take, List.length_drop]; omega⟩, by rw [List.length_set]; omega, ?_⟩
          rw [bst (ρ1 := [some (bg a b), x1, some (.sh (.int d)), none, some (.sh (.int (j : Nat))), some (to D), some (to (M.take o ++ ts :: M.drop o)), some (.sh (.int w)), some (.sh (.int (s : Nat))), some (.sh (.int (o : Nat))), none, none]) (by unfold to; simp_arith only [AS, IN])]
          exact back_ok _ _ _ _ _ _ _ _ _ _ es j (D, M.take o ++ ts :: M.drop o)
        · rw [bif_f (by rw [T 3, decide_eq_false c3])]
          by_cases c4 : w = 4
          · rw [bif_t (by rw [T 4, decide_eq_true c4])]
            obtain ⟨a', b', D', g, hl', OD⟩ := odd_row_ok a b d D ha (by omega)
            refine ⟨a', b', es.set j (D', M), some (.sh (.int (j : Nat))), some (to D), none, some (.sh (.int w)), some (.sh (.int (s : Nat))), some (.sh (.int (o : Nat))), none, none, bd_set hb' ⟨by simp only; omega, by simp only; omega⟩, by rw [List.length_set]; omega, ?_⟩
            refine put_ok _ _ _ _ _ _ _ _ _ _ _ _ (some (bg a' b')) x1 (some (.sh (.int d))) none (some (to D)) none _ _ _ _ _ _ es j hjl (D', M) ?_
            unfold eF
            simp_arith only [OD]
          · rw [bif_f (by rw [T 4, decide_eq_false c4])]
            by_cases c5 : w = 5
            · rw [bif_t (by rw [T 5, decide_eq_true c5])]
              have RV : (tUs D).reverse = tUs D.reverse := by unfold tUs; rw [List.map_reverse]
              refine ⟨a, b, es.set j (D.reverse, M), some (.sh (.int (j : Nat))), some (to D), none, some (.sh (.int w)), some (.sh (.int (s : Nat))), some (.sh (.int (o : Nat))), none, none, bd_set hb' ⟨by simp only [List.length_reverse]; omega, by simp only; omega⟩, by rw [List.length_set]; omega, ?_⟩
              refine put_ok _ _ _ _ _ _ _ _ _ _ _ _ (some (bg a b)) x1 (some (.sh (.int d))) none (some (to D)) none _ _ _ _ _ _ es j hjl (D.reverse, M) ?_
              unfold eF
              simp_arith only [RV]
            · rw [bif_f (by rw [T 5, decide_eq_false c5])]
              obtain ⟨a', b', M', g, hl', OD⟩ := odd_row_ok a b d M ha (by omega)
              refine ⟨a', b', es.set j (D, M'), some (.sh (.int (j : Nat))), none, some (to M), some (.sh (.int w)), some (.sh (.int (s : Nat))), some (.sh (.int (o : Nat))), none, none, bd_set hb' ⟨by simp only; omega, by simp only; omega⟩, by rw [List.length_set]; omega, ?_⟩
              refine put_ok _ _ _ _ _ _ _ _ _ _ _ _ (some (bg a' b')) x1 (some (.sh (.int d))) none none (some (to M)) _ _ _ _ _ _ es j hjl (D, M') ?_
              unfold eF
              simp_arith only [OD]
end K76
set_option maxRecDepth 1000000
namespace K76.A5
open PySem L2 MM
local macro_rules
  | `(tactic| simp_arith only [$xs:simpLemma,*] $[$loc:location]?) => `(tactic| simp (config := {decide := true}) (disch := (first | assumption | decide | omega | (simp only [List.length_cons, List.length_nil, List.length_append]; omega))) only [$xs,*, f_mull, f_mulr, ev_var, ev_ex, agV_e, agE_o, agE_x, oo_v, oo_o, bin_e, bin1_o, bin2_o, bin3_o, un_e, un1_o, un2_o, evs_n, evs_c, evs1_o, evs2_o, oso_n, oso_c, osa_n, osa_c, osa1_o, omap_s, lst_e, lst1_o, lst2_o, tup_e, tup1_o, tup2_o, tup3_s, tup3_n, alls_n, alls_c, alls_l, alls_t, cb_e, cb1_o, cb2_o, call_e, call1_o, call2_o, call3_o, call3_x, take_n, take_v, take_o, tkO_sh, tkO_ol, tkO_ot, tkO_sc, put_n, put_o, put_v, ptO_n, ptO_s, call0_e, call01_o, runF_e, run1_r, run1_n, run1_x, outs_n, outs_t, outs_f, mv_e, mv1_sh, mv1_ol, mv1_ot, mv2_o, mt_e, mt1_sh, mt1_ol, mt1_ot, mC_e, asb_e, asb1_o, asb2_o, ble_b, tru_e, tru1_o, tru2_o, and_e, and1_t, and1_f, or_e, or1_t, or1_f, not_e, not1_o, vand_e, vand1_o, vand2_t, vand2_f, vor_e, vor1_o, vor2_t, vor2_f, vnot_e, vnot1_o, vnot2_o, ife_e, if1_t, if1_f,
  ch_e, ch0_o, ch1_o, ch2_o, ch3_t, ch3_f, ch4_o, cn_e, cn1_o, lk_one, lk_more, lk1_o, lk2_o, lk3_t, lk3_f, seq_e, seq1_n, seq1_r, seq1_b, seq1_c, seq1_x, set_e, set1_o, set1_x, drop_e, drop1_o, drop1_x, ret_e, ret1_o, ret1_x, retN_e, nil_e, brk_e, cnt_e, raise_e, sif_e, sif1_t, sif1_f, aug_e, unp_e, unp1_o, unp2_o, unp3_o, unpE_ol, unpE_ot, unpE_tu, unpE_li, shs_n, shs_c, sal_n, sal_c, par_e, par1_o, par2_o, for_e, for1_o, lp_n, lp1_o, lp2_n, lp2_c, lp2_b, lp2_r, lp2_x, bind_nm, bind_tt, bind_tl, sr_e, sr1_o, sr2_o, sr3_o, inO_n, inO_c, f_sub, f_add, f_lt, f_le, f_gt, f_ge, f_eq, f_ne, f_neg, f_mod, f_div, f_pow, f_abs, f_len, f_lensc, f_lenl, f_lent, f_max2, f_min2, f_isi_ii, f_isi_ib, tr_b, tr_i, idx_e, idx1_o, at_l, at_t, at_ol, at_ot, at_sc, at_0, at_1, at_2, at_3, at_4, at_5, at_n, shE_s, decide_true, decide_false, mth_e, mth1_o, mth2_o, mth3_o, mth4_o, app_e, clr_e, tn0, tn1, tn2, tn3, tn4, tn5, tn6, tn7, tn8, tn9, tn10, tn11, tn12, at_6, at_7, at_8, at_9, at_10, at_11, at_12, while_e, evB_n, evB_s, eb1_o, eb2_o, sl_e, sl0_o, sl1_o, sl2_o, sl3_o, fSl_sh, fSl_ol, sa_e, sa1_v, sa1_o, sa2_o, itU_l, itU_t, fLi_sh, fLi_tu, fLi_ol, f_sum, f_sumo, rev_sh, rev_ol, isi_lst_l, isi_lst_o, isi_tup_t, fEq_nil, fEq_nilo, viewO_shs, shs_len, iU_len, ax_e, axB_o, ax0_o, ax1_o, ax2_o, ax3_o, ax4_o, ax5_o, at_t0, at_t1, at_t2, bind_t3, omap_n, f_addI, par3_e, par30_o, par31_o, mp_e, pmB_l, pmB_t, pmA_o, pm0_l, pm0_t, pm1_o, pm2_o, pm3_o, pm4_o, bor_e, borT_e, borO_o, borB_o, borO_x, borB_x, vwE_n, vwE_c, vw1_n, vw1_s, vw1_sc, vw1_ol, vw1_ot, vO_s, vO_l, vO_t, vOs_n, vOs_c, vcons_o, frz_e, frzO_o, frz2_o, frzO_x, try_e, try1_n, try1_r, try1_x, tryH_s, lkH, clr_r, clr_n, six_e, six0_o, six01_o, pix_e, pix1_o, pix2_o, ixN_l, six1_o, six2_o, bin1_x, bin2_x, un1_x, evs1_x, evs2_x, cb1_x, call1_x, lst1_x, tup1_x, f_maxD, fNe_nilo, eq_t1, eq_t2, eq_t3, eq_t4, eq_i1, eq_i2, eq_i3, eq_i4, viewOs_shs, ne_i1, ne_i2, ne_i3, ne_i4, ne_t1, ne_t2, ne_t3, ne_t4, ne_b, all_tt, isi_bl_b, forV_e, fv0_ol, fv0_sh, nl0_e, nl1_e, nla_o, nlb_o, nlit_s, keO_y, scO_i, nset_e, nst_o, nset0_e, nset1_o, nset2_s, npix_e, ndAt_y, nget_e, ng0_s, nget1_o, ng1_o, nget2_e, ng2_s, nget3_s, ndO_y, f_lenN, f_keysN, srcIt_e, nwO_y, si1_s, f_intb, f_inti, fTup_sh, fTup_ol, mt1_nd, tkO_nd, nix_e, nin_e, srcKy_e, sky_d, sky_f, nixf_e, src2X_e, s2a_o, s2b_s, sqB_l, sqB_u, zipX_ll, zipX_lt, zipX_tl,
  List.map_cons, List.map_nil, List.cons_append, List.nil_append, List.append_nil, List.replicate_succ, List.replicate_zero, List.getElem?_cons_zero, List.getElem?_cons_succ, List.getElem?_nil, List.set_cons_zero, List.set_cons_succ, List.set_nil, List.length_cons, List.length_nil, Option.getD_some, Option.getD_none, Option.bind_some, Option.some.injEq, reduceIte, Bool.not_true, Bool.not_false, intE] $[$loc]?)
abbrev lT (ts : List T3) : U := .list (tUs ts)
def wT (ts : List T3) : Int := ts.foldr (fun t s => t.2.2 + s) 0
def leT (a b : T3) : Bool := decide (a.1 < b.1) || (a.1 == b.1 && (decide (a.2.1 < b.2.1) || (a.2.1 == b.2.1 && decide (a.2.2 ≤ b.2.2))))
def liftsT (f : Nat) (room : Nat) : List T3 := (List.range (5 - f)).flatMap fun h => (List.range room).map fun w => ((f : Int), ((f + 1 + h : Nat) : Int), ((w + 1 : Nat) : Int))
def nextT (ls : List T3) (room : Nat) (rows : List (List T3)) : List (List T3) := rows.flatMap fun row => (ls.filter fun t => (match row.getLast? with | none => true | some l => leT l t) && decide (wT row + t.2.2 ≤ (room : Int))).map fun t => row ++ [t]
def lvls (ls : List T3) (room : Nat) : Nat → List (List T3) → List (List T3)
  | 0, rows => rows
  | n + 1, rows => rows ++ lvls ls room n (nextT ls room rows)
def rowsT (f room : Nat) : List (List T3) := lvls (liftsT f room) room room [[]]
def leave (f : Nat) (row : List T3) : List (List T3) := (rowsT f (dueZ row f).toNat).map fun l => row ++ l
def stage (f : Nat) (rows : List (List T3)) : List (List T3) := rows.flatMap (leave f)
@[irreducible] def A1 := stage 1 [[]]
@[irreducible] def A2 := stage 2 A1
@[irreducible] def A3 := stage 3 A2
@[irreducible] def A4 := stage 4 A3
def RFact (f r : Nat) : Prop := m_rows_from [.sh (.int f), .sh (.int 5), .sh (.int r)] = .ok (.ol (shs ((rowsT f r).map lT))) [some (.sh (.int f)), some (.sh (.int 5)), some (.sh (.int r))]
theorem r10 : RFact 1 0 := by unfold RFact; kernel_rfl
theorem r11 : RFact 1 1 := by unfold RFact; kernel_rfl
theorem r20 : RFact 2 0 := by unfold RFact; kernel_rfl
theorem r21 : RFact 2 1 := by unfold RFact; kernel_rfl
theorem r22 : RFact 2 2 := by unfold RFact; kernel_rfl
theorem r30 : RFact 3 0 := by unfold RFact; kernel_rfl
theorem r31 : RFact 3 1 := by unfold RFact; kernel_rfl
theorem r32 : RFact 3 2 := by unfold RFact; kernel_rfl
theorem r33 : RFact 3 3 := by unfold RFact; kernel_rfl
theorem r40 : RFact 4 0 := by unfold RFact; kernel_rfl
theorem r41 : RFact 4 1 := by unfold RFact; kernel_rfl
theorem r42 : RFact 4 2 := by unfold RFact; kernel_rfl
theorem r43 : RFact 4 3 := by unfold RFact; kernel_rfl
theorem r44 : RFact 4 4 := by unfold RFact; kernel_rfl
theorem rows_ok (f r : Nat) (h1 : 1 ≤ f) (h2 : f ≤ 4) (h3 : r ≤ f) : RFact f r := by
  rcases (show f = 1 ∨ f = 2 ∨ f = 3 ∨ f = 4 by omega) with rfl | rfl | rfl | rfl
  · rcases (show r = 0 ∨ r = 1 by omega) with rfl | rfl
    · exact r10
    · exact r11
  · rcases (show r = 0 ∨ r = 1 ∨ r = 2 by omega) with rfl | rfl | rfl
    · exact r20
    · exact r21
    · exact r22
  · rcases (show r = 0 ∨ r = 1 ∨ r = 2 ∨ r = 3 by omega) with rfl | rfl | rfl | rfl
    · exact r30
    · exact r31
    · exact r32
    · exact r33
  · rcases (show r = 0 ∨ r = 1 ∨ r = 2 ∨ r = 3 ∨ r = 4 by omega) with rfl | rfl | rfl | rfl | rfl
    · exact r40
    · exact r41
    · exact r42
    · exact r43
    · exact r44
def Pv (ts : List T3) (k : Nat) (ρ : Ev) : Prop := ∃ (x3 x4 x5 : Option O), ρ = [some (.sh (.int 5)), some (.sh (lT ts)), some (.ol (shs (iU (dueL 5 (ts.take k))))), x3, x4, x5]
theorem asked_ok : m_asked_degree [.sh (.int 5), .sh (.int 5)] = .ok (.sh .none) [some (.sh (.int 5)), some (.sh (.int 5))] := by kernel_rfl
theorem ends_okS (ts : List T3) (hg : ∀ t ∈ ts, Good 5 t) : m_ends_at [.sh (.int 5), .sh (lT ts)] = .ok (.ol (shs (iU (dueL 5 ts)))) [some (.sh (.int 5)), some (.sh (lT ts))] := by
  have R1 : ∀ ρ, fMul (.ol [.sh (.int 1)]) (.sh (.int 5)) ρ = .ok (.ol (shs (iU (dueL 5 (ts.take 0))))) ρ := by
    intro ρ
    have := rep_ones (d := 5) (z := 1) (ρ := ρ) (by omega)
    rwa [← dueL_nil] at this
  obtain ⟨ρ', e, x3, x4, x5, rfl⟩ := lpF_ix (t := .tp [3, 4, 5]) (body := b_ends_at_1) (Pv ts) (tUs ts) 0 (fun k u hu ρ hp => by
    obtain ⟨t, ht, rfl⟩ := tUs_get hu
    rw [Nat.zero_add] at hp ⊢
    obtain ⟨x3, x4, x5, rfl⟩ := hp
    refine ⟨_, bind_t3, ?_⟩
    have g := hg t (List.mem_of_getElem? ht)
    have g1 := g.l1
    have g2 := g.lh
    have g3 := g.hd
    have tk : ts.take (k + 1) = ts.take k ++ [t] := by
      rw [List.take_succ, ht]; rfl
    obtain ⟨l, h, w⟩ := t
    simp only at g1 g2 g3
    have A1 : at' (shs (iU (dueL 5 (ts.take k)))) (l - 1) = some (.sh (.int (dueZ (ts.take k) l))) := so_at (by omega) (dueL_at g1 (by omega))
    have I1 : ixN 5 (l - 1) = some (l - 1).toNat := ixN_l (by omega) (by omega)
    have A2 : at' (shs (iU ((dueL 5 (ts.take k)).set (l - 1).toNat (dueZ (ts.take k) l - w)))) (h - 1) = some (.sh (.int (dueZ (ts.take k) h))) := so_at (by omega) (dueL_snoc_at g1 (by omega) (by omega))
    have I2 : ixN 5 (h - 1) = some (h - 1).toNat := ixN_l (by omega) (by omega)
    have E5 : ((dueL 5 (ts.take k)).set (l - 1).toNat (dueZ (ts.take k) l - w)).set (h - 1).toNat (dueZ (ts.take k) h + w) = dueL 5 (ts.take (k + 1)) := by
      rw [tk]; exact (dueL_snoc g1 g2 (by omega)).symm
    generalize hq : b_ends_at_1 _ = q
    unfold b_ends_at_1 at hq
    simp_arith only [A1, I1, A2, I2, E5, so_set, List.length_set, dueL_len] at hq
    exact ⟨_, .inl hq.symm, _, _, _, rfl⟩) [some (.sh (.int 5)), some (.sh (lT ts)), some (.ol (shs (iU (dueL 5 (ts.take 0))))), none, none, none] ⟨none, none, none, rfl⟩
  rw [Nat.zero_add, tUs_len, List.take_of_length_le (Nat.le_refl _)] at e
  have a := asked_ok
  generalize hq : m_ends_at _ = q
  unfold m_ends_at b_ends_at at hq
  simp_arith only [a, R1, e, tUs_len] at hq
  subst hq
  rfl
theorem f_addLL {us ws : List U} {ρ : Ev} (h : us.length + ws.length ≤ 16777216) : fAdd (.sh (.list us)) (.sh (.list ws)) ρ = .ok (.ol (shs (us ++ ws))) ρ := by
  have a : intE (.sh (.list us)) = none := rfl
  have b : strE (.sh (.list us)) = none := rfl
  simp only [fAdd, a, b, lstE, if_pos h]
theorem tUs_app (a b : List T3) : tUs a ++ tUs b = tUs (a ++ b) := by unfold tUs; rw [List.map_append]
theorem inner (x0 x1 x2 x5 : Option O) (row : List T3) (hr : row.length ≤ 100) : ∀ (ls : List (List T3)) (acc : List O) (x6 : Option O), (∀ l ∈ ls, l.length ≤ 100) → acc.length + ls.length ≤ 100000 → ∃ x6', lpF (.nm 6) b_all_sound_1 (ls.map lT) [x0, x1, x2, some (.ol acc), some (.sh (lT row)), x5, x6] = .nx [x0, x1, x2, some (.ol (acc ++ ls.map fun l => to (row ++ l))), some (.sh (lT row)), x5, x6']
  | [], acc, x6, _, _ => ⟨x6, by rw [List.map_nil, List.map_nil, List.append_nil]; rfl⟩
  | l :: ls, acc, x6, h, hl => by
    rw [List.length_cons] at hl
    have l1 := h l List.mem_cons_self
    have A := fun ρ => f_addLL (us := tUs row) (ws := tUs l) (ρ := ρ) (by rw [tUs_len, tUs_len]; omega)
    have hb : b_all_sound_1 [x0, x1, x2, some (.ol acc), some (.sh (lT row)), x5, some (.sh (lT l))] = .nx [x0, x1, x2, some (.ol (acc ++ [to (row ++ l)])), some (.sh (lT row)), x5, some (.sh (lT l))] := by
      generalize hq : b_all_sound_1 _ = q
      unfold b_all_sound_1 at hq
      have hz : acc.length < 16777216 := by omega
      simp_arith only [A, tUs_app, hz] at hq
      exact hq.symm
    obtain ⟨x6', e⟩ := inner x0 x1 x2 x5 row hr ls (acc ++ [to (row ++ l)]) (some (.sh (lT l))) (fun m hm => h m (List.mem_cons_of_mem _ hm)) (by rw [List.length_append, List.length_singleton]; omega)
    refine ⟨x6', ?_⟩
    rw [List.map_cons, lp_c]
    have hbd : bind (.nm 6) (lT l) [x0, x1, x2, some (.ol acc), some (.sh (lT row)), x5, x6] = some [x0, x1, x2, some (.ol acc), some (.sh (lT row)), x5, some (.sh (lT l))] := rfl
    rw [hbd, lp1_o, hb, lp2_n, e, List.append_assoc]
    rfl
structure OkR (f : Nat) (row : List T3) : Prop where
  g : ∀ t ∈ row, Good 5 t
  n : row.length ≤ 100
  lo : 0 ≤ dueZ row f
  hi : dueZ row f ≤ f
  ls : ∀ l ∈ rowsT f (dueZ row f).toNat, l.length ≤ 100
theorem one_row (x1 x5 x6 : Option O) (f : Nat) (h1 : 1 ≤ f) (h2 : f ≤ 4) (row : List T3) (ok : OkR f row) (acc : List O) (hl : acc.length + (leave f row).length ≤ 100000) : ∃ x5' x6', b_all_sound_2 [some (.sh (.int 5)), x1, some (.sh (.int f)), some (.ol acc), some (.sh (lT row)), x5, x6] = .nx [some (.sh (.int 5)), x1, some (.sh (.int f)), some (.ol (acc ++ (leave f row).map to)), some (.sh (lT row)), x5', x6'] := by
  obtain ⟨r, hr⟩ := Int.eq_ofNat_of_zero_le ok.lo
  have hi := ok.hi
  have E := ends_okS row ok.g
  have hf : (1 : Int) ≤ f := by omega
  have AT : at' (shs (iU (dueL 5 row))) ((f : Int) - 1) = some (.sh (.int (r : Int))) := by
    rw [← hr]
    exact so_at (by omega) (dueL_at hf (by omega))
  have R : m_rows_from [.sh (.int f), .sh (.int 5), .sh (.int r)] = .ok (.ol (shs ((rowsT f r).map lT))) [some (.sh (.int f)), some (.sh (.int 5)), some (.sh (.int r))] := rows_ok f r h1 h2 (by omega)
  have e0 : (dueZ row f).toNat = r := by omega
  have hlv : leave f row = (rowsT f r).map fun l => row ++ l := by unfold leave; rw [e0]
  rw [hlv, List.length_map] at hl
  obtain ⟨x6', e⟩ := inner (some (.sh (.int 5))) x1 (some (.sh (.int f))) (some (.sh (.int r))) row ok.n (rowsT f r) acc x6 (by rw [← e0]; exact ok.ls) hl
  refine ⟨some (.sh (.int r)), x6', ?_⟩
  rw [hlv, List.map_map]
  generalize hq : b_all_sound_2 _ = q
  unfold b_all_sound_2 at hq
  simp_arith only [E, AT, R, e] at hq
  exact hq.symm
theorem all_rows (x1 : Option O) (f : Nat) (h1 : 1 ≤ f) (h2 : f ≤ 4) : ∀ (rows : List (List T3)) (acc : List O) (x4 x5 x6 : Option O), (∀ row ∈ rows, OkR f row) → acc.length + (stage f rows).length ≤ 100000 → ∃ x4' x5' x6', lpF (.nm 4) b_all_sound_2 (rows.map lT) [some (.sh (.int 5)), x1, some (.sh (.int f)), some (.ol acc), x4, x5, x6] = .nx [some (.sh (.int 5)), x1, some (.sh (.int f)), some (.ol (acc ++ (stage f rows).map to)), x4', x5', x6']
  | [], acc, x4, x5, x6, _, _ => ⟨x4, x5, x6, by show _ = Fl.nx [_, _, _, some (.ol (acc ++ [])), _, _, _]; rw [List.append_nil]; rfl⟩
  | row :: rows, acc, x4, x5, x6, h, hl => by
    have es : stage f (row :: rows) = leave f row ++ stage f rows := rfl
    rw [es, List.length_append] at hl
    obtain ⟨y5, y6, e1⟩ := one_row x1 x5 x6 f h1 h2 row (h row List.mem_cons_self) acc (by omega)
    obtain ⟨x4', x5', x6', e2⟩ := all_rows x1 f h1 h2 rows (acc ++ (leave f row).map to) (some (.sh (lT row))) y5 y6 (fun r hr => h r (List.mem_cons_of_mem _ hr)) (by rw [List.length_append, List.length_map]; omega)
    refine ⟨x4', x5', x6', ?_⟩
    rw [List.map_cons, lp_c]
    have hbd : bind (.nm 4) (lT row) [some (.sh (.int 5)), x1, some (.sh (.int f)), some (.ol acc), x4, x5, x6] = some [some (.sh (.int 5)), x1, some (.sh (.int f)), some (.ol acc), some (.sh (lT row)), x5, x6] := rfl
    rw [hbd, lp1_o, e1, lp2_n, e2, es, List.map_append, List.append_assoc]
theorem viewOs_to : ∀ rs : List (List T3), viewOs (rs.map to) = some (rs.map lT)
  | [] => rfl
  | r :: rs => by
    rw [List.map_cons, vOs_c, viewO_shs, viewOs_to rs]
    rfl
def Sl1 (rows : List (List T3)) (x : Option O) : Prop := x = some (.sh (.list (rows.map lT))) ∨ (rows = [[]] ∧ x = some (.ol [.sh (.list [])]))
theorem one_stage (f : Nat) (h1 : 1 ≤ f) (h2 : f ≤ 4) (rows : List (List T3)) (x1 x3 x4 x5 x6 : Option O) (hx : Sl1 rows x1) (ok : ∀ row ∈ rows, OkR f row) (hl : (stage f rows).length ≤ 100000) : ∃ y3 x4' x5' x6', b_all_sound_3 [some (.sh (.int 5)), x1, some (.sh (.int f)), x3, x4, x5, x6] = .nx [some (.sh (.int 5)), some (.sh (.list ((stage f rows).map lT))), some (.sh (.int f)), y3, x4', x5', x6'] := by
  obtain ⟨x4', x5', x6', e⟩ := all_rows (some (.sh (.list (rows.map lT)))) f h1 h2 rows [] x4 x5 x6 ok (by rw [List.length_nil, Nat.zero_add]; exact hl)
  rw [List.nil_append] at e
  have V : viewO (.ol ((stage f rows).map to)) = some (.list ((stage f rows).map lT)) := by
    rw [vO_l, viewOs_to]
    rfl
  refine ⟨some (.sh (.list ((stage f rows).map lT))), x4', x5', x6', ?_⟩
  generalize hq : b_all_sound_3 _ = q
  unfold b_all_sound_3 at hq
  rcases hx with rfl | ⟨rfl, rfl⟩
  · simp_arith only [e, V, Option.map_some] at hq
    exact hq.symm
  · have e2 : viewO (.ol [.sh (.list [])]) = some (.list [.list []]) := rfl
    have e' : lpF (.nm 4) b_all_sound_2 [.list []] [some (.sh (.int 5)), some (.sh (.list [.list []])), some (.sh (.int f)), some (.ol []), x4, x5, x6] = .nx [some (.sh (.int 5)), some (.sh (.list [.list []])), some (.sh (.int f)), some (.ol ((stage f [[]]).map to)), x4', x5', x6'] := e
    simp_arith only [e2, e', V, Option.map_some] at hq
    exact hq.symm
def goodB (t : T3) : Bool := decide (1 ≤ t.1) && (decide (t.1 < t.2.1) && (decide (t.2.1 ≤ 5) && (decide (1 ≤ t.2.2) && decide (t.2.2 ≤ 60))))
theorem goodB_ok {t : T3} (h : goodB t = true) : Good 5 t := by
  unfold goodB at h
  simp only [Bool.and_eq_true, decide_eq_true_eq] at h
  exact ⟨h.1, h.2.1, h.2.2.1, h.2.2.2.1, h.2.2.2.2⟩
def okB (f : Nat) (row : List T3) : Bool := row.all goodB && (decide (row.length ≤ 100) && (decide (0 ≤ dueZ row f) && (decide (dueZ row f ≤ f) && (rowsT f (dueZ row f).toNat).all fun l => decide (l.length ≤ 100))))
theorem okB_ok {f : Nat} {rows : List (List T3)} (h : rows.all (okB f) = true) : ∀ row ∈ rows, OkR f row := fun row hr => by
  have h := List.all_eq_true.mp h row hr
  unfold okB at h
  simp only [Bool.and_eq_true, decide_eq_true_eq] at h
  obtain ⟨h1, h2, h3, h4, h5⟩ := h
  exact ⟨fun t ht => goodB_ok (List.all_eq_true.mp h1 t ht), h2, h3, h4, fun l hl => of_decide_eq_true (List.all_eq_true.mp h5 l hl)⟩
theorem o1 : ([[]] : List (List T3)).all (okB 1) = true := by kernel_rfl
theorem o2 : A1.all (okB 2) = true := by kernel_rfl
theorem o3 : A2.all (okB 3) = true := by kernel_rfl
theorem o4 : A3.all (okB 4) = true := by kernel_rfl
theorem n1 : A1.length = 5 := by kernel_rfl
theorem n2 : A2.length = 29 := by kernel_rfl
theorem n3 : A3.length = 177 := by kernel_rfl
theorem n4 : A4.length = 856 := by kernel_rfl
theorem hA1 : stage 1 [[]] = A1 := by unfold A1; rfl
theorem hA2 : stage 2 A1 = A2 := by unfold A2; rfl
theorem hA3 : stage 3 A2 = A3 := by unfold A3; rfl
theorem hA4 : stage 4 A3 = A4 := by unfold A4; rfl
theorem lp_s {body : MS} {j : Nat} {u : U} {us : List U} {ρ ρ1 ρ2 : Ev} {r : Fl} (hb : bind (.nm j) u ρ = some ρ1) (h1 : body ρ1 = .nx ρ2) (h2 : lpF (.nm j) body us ρ2 = r) : lpF (.nm j) body (u :: us) ρ = r := by
  rw [lp_c, hb, lp1_o, h1, lp2_n, h2]
theorem bd2 {f : Nat} {x0 x1 x2 x3 x4 x5 x6 : Option O} : bind (.nm 2) (.int f) [x0, x1, x2, x3, x4, x5, x6] = some [x0, x1, some (.sh (.int f)), x3, x4, x5, x6] := rfl
theorem all5 : m_all_sound [.sh (.int 5)] = .ok (.sh (.list (A4.map lT))) [some (.sh (.int 5))] := by
  obtain ⟨a3, a4, a5, a6, s1⟩ := one_stage 1 (by decide) (by decide) [[]] (some (.ol [.sh (.list [])])) none none none none (.inr ⟨rfl, rfl⟩) (okB_ok o1) (by rw [hA1, n1]; decide)
  rw [hA1] at s1
  obtain ⟨b3, b4, b5, b6, s2⟩ := one_stage 2 (by decide) (by decide) A1 _ a3 a4 a5 a6 (.inl rfl) (okB_ok o2) (by rw [hA2, n2]; decide)
  rw [hA2] at s2
  obtain ⟨c3, c4, c5, c6, s3⟩ := one_stage 3 (by decide) (by decide) A2 _ b3 b4 b5 b6 (.inl rfl) (okB_ok o3) (by rw [hA3, n3]; decide)
  rw [hA3] at s3
  obtain ⟨d3, d4, d5, d6, s4⟩ := one_stage 4 (by decide) (by decide) A3 _ c3 c4 c5 c6 (.inl rfl) (okB_ok o4) (by rw [hA4, n4]; decide)
  rw [hA4] at s4
  have e : lpF (.nm 2) b_all_sound_3 [.int ((1 : Nat) : Int), .int ((2 : Nat) : Int), .int ((3 : Nat) : Int), .int ((4 : Nat) : Int)] [some (.sh (.int 5)), some (.ol [.sh (.list [])]), none, none, none, none, none] = .nx [some (.sh (.int 5)), some (.sh (.list (A4.map lT))), some (.sh (.int ((4 : Nat) : Int))), d3, d4, d5, d6] :=
    lp_s bd2 s1 (lp_s bd2 s2 (lp_s bd2 s3 (lp_s bd2 s4 lp_n)))
  have rg : rngF [1, 5] = some [.int ((1 : Nat) : Int), .int ((2 : Nat) : Int), .int ((3 : Nat) : Int), .int ((4 : Nat) : Int)] := rfl
  generalize hq : m_all_sound _ = q
  unfold m_all_sound b_all_sound at hq
  simp_arith only [rg, e] at hq
  exact hq.symm
def lenE (w : Int) : U → Bool
  | .list us => decide (((us.length : Nat) : Int) = w)
  | _ => false
def XU (k : Int) : List U := (A4.map lT).filter (lenE (10 - k))
def YU (k : Int) : List U := isortU leU (XU k)
theorem drawings5 (k : Int) (aw : m_asked_wide [.sh (.int 5), .sh (.int k)] = .ok (.sh .none) [some (.sh (.int 5)), some (.sh (.int k))]) (ok : okSort (XU k) = true) : m_drawings [.sh (.int 5), .sh (.int k)] = .ok (.ol (shs (YU k))) [some (.sh (.int 5)), some (.sh (.int k))] := by
  have L : mLc (.nm 3) [3] (srcA (.ex (mCall m_all_sound [.var 0]))) (asB (mBin fEq (.ex (mCB (f1 lenO) [.var 3])) (.var 2))) (mVar 3) [some (.sh (.int 5)), some (.sh (.int k)), some (.sh (.int (10 - k))), none] = .ok (.ol (shs (XU k))) [some (.sh (.int 5)), some (.sh (.int k)), some (.sh (.int (10 - k))), none] := by
    have hs : srcA (.ex (mCall m_all_sound [.var 0])) [some (.sh (.int 5)), some (.sh (.int k)), some (.sh (.int (10 - k))), none] = .ok (A4.map lT) [some (.sh (.int 5)), some (.sh (.int k)), some (.sh (.int (10 - k))), none] := by
      simp_arith only [all5]
    rw [lc_fm (ρw := [some (.sh (.int 5)), some (.sh (.int k)), some (.sh (.int (10 - k))), none]) (lenE (10 - k)) (fun u => u) hs (by rw [List.length_map, n4]; decide) rfl (fun u hu => ?_), List.map_id']
    · rfl
    · obtain ⟨ts, _, rfl⟩ := List.mem_map.mp hu
      refine ⟨_, rfl, [some (.sh (.int 5)), some (.sh (.int k)), some (.sh (.int (10 - k))), some (.sh (lT ts))], ?_, fun _ => rfl, fun _ => ⟨_, rfl, rfl⟩⟩
      rfl
  have S : ∀ ρ, fSort [.ol (shs (XU k))] ρ = .ok (.ol (shs (YU k))) ρ := fun ρ => by
    simp only [fSort, lstE, allSh_shs, ok, if_true]
    rfl
  generalize hq : m_drawings _ = q
  unfold m_drawings b_drawings at hq
  have w : (5 : Int) * (5 - 1) / 2 - k = 10 - k := by omega
  simp_arith only [aw, w, L, S] at hq
  exact hq.symm
end K76.A5
namespace K76
open PySem L2 MM
def c3 (n : Nat) : T3 := ((n / 100 : Nat), (n / 10 % 10 : Nat), (n % 10 : Nat))
def dm3 (l : List Nat) : List T3 := l.map c3
def MkF (d : Int) (D : List T3) (M : List (List Nat)) : Prop := m_markings [.sh (.int d), .sh (lT D)] = .ok (.ol (shs (M.map fun m => lT (dm3 m)))) [some (.sh (.int d)), some (.sh (lT D))]
def esOf (ps : List (List T3 × List (List Nat))) : List En := ps.flatMap fun p => p.2.map fun m => (p.1, dm3 m)
structure Pp (d k : Int) (ps : List (List T3 × List (List Nat))) : Prop where
  dr : m_drawings [.sh (.int d), .sh (.int k)] = .ok (.ol (shs (ps.map fun p => lT p.1))) [some (.sh (.int d)), some (.sh (.int k))]
  dm : ∀ p ∈ ps, MkF d p.1 p.2
  ln : (esOf ps).length ≤ 600
  sm : ((esOf ps).all fun e => decide (e.1.length ≤ 20) && (decide (e.2.length ≤ 40) && decide (1 ≤ e.2.length))) = true
theorem pall_nil {P : (List T3 × List (List Nat)) → Prop} : ∀ r ∈ ([] : List (List T3 × List (List Nat))), P r := fun _ h => nomatch h
theorem pall_cons {P : (List T3 × List (List Nat)) → Prop} {a : List T3 × List (List Nat)} {l : List (List T3 × List (List Nat))} (h : P a) (t : ∀ r ∈ l, P r) : ∀ r ∈ a :: l, P r := fun r hr => by
  rcases List.mem_cons.mp hr with rfl | hr
  · exact h
  · exact t r hr
@[irreducible] def mc10_0 : List (List Nat) := [[110, 121]]
@[irreducible] def mc20_0 : List (List Nat) := [[110, 121, 220, 231, 231]]
@[irreducible] def mc21_0 : List (List Nat) := [[110, 131, 220, 231], [110, 220, 131, 231], [110, 220, 231, 131]]
@[irreducible] def mc30_0 : List (List Nat) := [[110, 121, 220, 231, 231, 330, 341, 341, 341]]
@[irreducible] def mc31_0 : List (List Nat) := [[110, 121, 220, 231, 241, 330, 341, 341], [110, 121, 220, 231, 330, 241, 341, 341], [110, 121, 220, 231, 330, 341, 241, 341], [110, 121, 220, 231, 330, 341, 341, 241], [110, 121, 220, 241, 231, 330, 341, 341]]
@[irreducible] def mc31_1 : List (List Nat) := [[110, 121, 220, 232, 330, 341, 341, 341]]
@[irreducible] def mc31_2 : List (List Nat) := [[110, 131, 220, 231, 330, 341, 341, 341], [110, 220, 131, 231, 330, 341, 341, 341], [110, 220, 231, 131, 330, 341, 341, 341]]
@[irreducible] def mc32_0 : List (List Nat) := [[110, 121, 220, 241, 241, 330, 341], [110, 121, 220, 241, 330, 241, 341], [110, 121, 220, 241, 330, 341, 241], [110, 121, 220, 330, 241, 241, 341], [110, 121, 220, 330, 241, 341, 241], [110, 121, 220, 330, 341, 241, 241]]
@[irreducible] def mc32_1 : List (List Nat) := [[110, 131, 220, 241, 330, 341, 341], [110, 131, 220, 330, 241, 341, 341], [110, 131, 220, 330, 341, 241, 341], [110, 131, 220, 330, 341, 341, 241], [110, 220, 131, 241, 330, 341, 341], [110, 220, 131, 330, 241, 341, 341], [110, 220, 131, 330, 341, 241, 341], [110, 220, 131, 330, 341, 341, 241], [110, 220, 241, 131, 330, 341, 341]]
@[irreducible] def mc32_2 : List (List Nat) := [[110, 141, 220, 231, 330, 341, 341], [110, 220, 141, 231, 330, 341, 341], [110, 220, 231, 141, 330, 341, 341], [110, 220, 231, 330, 141, 341, 341], [110, 220, 231, 330, 341, 141, 341], [110, 220, 231, 330, 341, 341, 141]]
@[irreducible] def mc33_0 : List (List Nat) := [[110, 141, 220, 241, 330, 341], [110, 141, 220, 330, 241, 341], [110, 141, 220, 330, 341, 241], [110, 220, 141, 241, 330, 341], [110, 220, 141, 330, 241, 341], [110, 220, 141, 330, 341, 241], [110, 220, 241, 141, 330, 341], [110, 220, 241, 330, 141, 341], [110, 220, 241, 330, 341, 141], [110, 220, 330, 141, 241, 341], [110, 220, 330, 141, 341, 241], [110, 220, 330, 241, 141, 341], [110, 220, 330, 241, 341, 141], [110, 220, 330, 341, 141, 241], [110, 220, 330, 341, 241, 141]]
@[irreducible] def mc40_0 : List (List Nat) := [[110, 121, 220, 231, 231, 330, 341, 341, 341, 440, 451, 451, 451, 451]]
@[irreducible] def mc41_0 : List (List Nat) := [[110, 121, 220, 231, 231, 330, 341, 341, 351, 440, 451, 451, 451], [110, 121, 220, 231, 231, 330, 341, 341, 440, 351, 451, 451, 451], [110, 121, 220, 231, 231, 330, 341, 341, 440, 451, 351, 451, 451], [110, 121, 220, 231, 231, 330, 341, 341, 440, 451, 451, 351, 451], [110, 121, 220, 231, 231, 330, 341, 341, 440, 451, 451, 451, 351], [110, 121, 220, 231, 231, 330, 341, 351, 341, 440, 451, 451, 451], [110, 121, 220, 231, 231, 330, 351, 341, 341, 440, 451, 451, 451]]
@[irreducible] def mc41_1 : List (List Nat) := [[110, 121, 220, 231, 231, 330, 341, 342, 440, 451, 451, 451, 451], [110, 121, 220, 231, 231, 330, 342, 341, 440, 451, 451, 451, 451]]
@[irreducible] def mc41_2 : List (List Nat) := [[110, 121, 220, 231, 241, 330, 341, 341, 440, 451, 451, 451, 451], [110, 121, 220, 231, 330, 241, 341, 341, 440, 451, 451, 451, 451], [110, 121, 220, 231, 330, 341, 241, 341, 440, 451, 451, 451, 451], [110, 121, 220, 231, 330, 341, 341, 241, 440, 451, 451, 451, 451], [110, 121, 220, 241, 231, 330, 341, 341, 440, 451, 451, 451, 451]]
@[irreducible] def mc41_3 : List (List Nat) := [[110, 121, 220, 232, 330, 341, 341, 341, 440, 451, 451, 451, 451]]
@[irreducible] def mc41_4 : List (List Nat) := [[110, 131, 220, 231, 330, 341, 341, 341, 440, 451, 451, 451, 451], [110, 220, 131, 231, 330, 341, 341, 341, 440, 451, 451, 451, 451], [110, 220, 231, 131, 330, 341, 341, 341, 440, 451, 451, 451, 451]]
@[irreducible] def mc42_0 : List (List Nat) := [[110, 121, 220, 231, 231, 330, 341, 351, 351, 440, 451, 451], [110, 121, 220, 231, 231, 330, 341, 351, 440, 351, 451, 451], [110, 121, 220, 231, 231, 330, 341, 351, 440, 451, 351, 451], [110, 121, 220, 231, 231, 330, 341, 351, 440, 451, 451, 351], [110, 121, 220, 231, 231, 330, 341, 440, 351, 351, 451, 451], [110, 121, 220, 231, 231, 330, 341, 440, 351, 451, 351, 451], [110, 121, 220, 231, 231, 330, 341, 440, 351, 451, 451, 351], [110, 121, 220, 231, 231, 330, 341, 440, 451, 351, 351, 451], [110, 121, 220, 231, 231, 330, 341, 440, 451, 351, 451, 351], [110, 121, 220, 231, 231, 330, 341, 440, 451, 451, 351, 351], [110, 121, 220, 231, 231, 330, 351, 341, 351, 440, 451, 451], [110, 121, 220, 231, 231, 330, 351, 341, 440, 351, 451, 451], [110, 121, 220, 231, 231, 330, 351, 341, 440, 451, 351, 451], [110, 121, 220, 231, 231, 330, 351, 341, 440, 451, 451, 351], [110, 121, 220, 231, 231, 330, 351, 351, 341, 440, 451, 451]]
@[irreducible] def mc42_1 : List (List Nat) := [[110, 121, 220, 231, 231, 330, 342, 351, 440, 451, 451, 451], [110, 121, 220, 231, 231, 330, 342, 440, 351, 451, 451, 451], [110, 121, 220, 231, 231, 330, 342, 440, 451, 351, 451, 451], [110, 121, 220, 231, 231, 330, 342, 440, 451, 451, 351, 451], [110, 121, 220, 231, 231, 330, 342, 440, 451, 451, 451, 351], [110, 121, 220, 231, 231, 330, 351, 342, 440, 451, 451, 451]]
@[irreducible] def mc42_2 : List (List Nat) := [[110, 121, 220, 231, 231, 330, 343, 440, 451, 451, 451, 451]]
@[irreducible] def mc42_3 : List (List Nat) := [[110, 121, 220, 231, 241, 330, 341, 351, 440, 451, 451, 451], [110, 121, 220, 231, 241, 330, 341, 440, 351, 451, 451, 451], [110, 121, 220, 231, 241, 330, 341, 440, 451, 351, 451, 451], [110, 121, 220, 231, 241, 330, 341, 440, 451, 451, 351, 451], [110, 121, 220, 231, 241, 330, 341, 440, 451, 451, 451, 351], [110, 121, 220, 231, 241, 330, 351, 341, 440, 451, 451, 451], [110, 121, 220, 231, 330, 241, 341, 351, 440, 451, 451, 451], [110, 121, 220, 231, 330, 241, 341, 440, 351, 451, 451, 451], [110, 121, 220, 231, 330, 241, 341, 440, 451, 351, 451, 451], [110, 121, 220, 231, 330, 241, 341, 440, 451, 451, 351, 451], [110, 121, 220, 231, 330, 241, 341, 440, 451, 451, 451, 351], [110, 121, 220, 231, 330, 241, 351, 341, 440, 451, 451, 451], [110, 121, 220, 231, 330, 341, 241, 351, 440, 451, 451, 451], [110, 121, 220, 231, 330, 341, 241, 440, 351, 451, 451, 451], [110, 121, 220, 231, 330, 341, 241, 440, 451, 351, 451, 451], [110, 121, 220, 231, 330, 341, 241, 440, 451, 451, 351, 451], [110, 121, 220, 231, 330, 341, 241, 440, 451, 451, 451, 351], [110, 121, 220, 231, 330, 341, 351, 241, 440, 451, 451, 451], [110, 121, 220, 231, 330, 351, 241, 341, 440, 451, 451, 451], [110, 121, 220, 231, 330, 351, 341, 241, 440, 451, 451, 451], [110, 121, 220, 241, 231, 330, 341, 351, 440, 451, 451, 451], [110, 121, 220, 241, 231, 330, 341, 440, 351, 451, 451, 451], [110, 121, 220, 241, 231, 330, 341, 440, 451, 351, 451, 451], [110, 121, 220, 241, 231, 330, 341, 440, 451, 451, 351, 451], [110, 121, 220, 241, 231, 330, 341, 440, 451, 451, 451, 351], [110, 121, 220, 241, 231, 330, 351, 341, 440, 451, 451, 451]]
@[irreducible] def mc42_4 : List (List Nat) := [[110, 121, 220, 231, 241, 330, 342, 440, 451, 451, 451, 451], [110, 121, 220, 231, 330, 241, 342, 440, 451, 451, 451, 451], [110, 121, 220, 231, 330, 342, 241, 440, 451, 451, 451, 451], [110, 121, 220, 241, 231, 330, 342, 440, 451, 451, 451, 451]]
@[irreducible] def mc42_5 : List (List Nat) := [[110, 121, 220, 231, 251, 330, 341, 341, 440, 451, 451, 451], [110, 121, 220, 231, 330, 251, 341, 341, 440, 451, 451, 451], [110, 121, 220, 231, 330, 341, 251, 341, 440, 451, 451, 451], [110, 121, 220, 231, 330, 341, 341, 251, 440, 451, 451, 451], [110, 121, 220, 231, 330, 341, 341, 440, 251, 451, 451, 451], [110, 121, 220, 231, 330, 341, 341, 440, 451, 251, 451, 451], [110, 121, 220, 231, 330, 341, 341, 440, 451, 451, 251, 451], [110, 121, 220, 231, 330, 341, 341, 440, 451, 451, 451, 251], [110, 121, 220, 251, 231, 330, 341, 341, 440, 451, 451, 451]]
@[irreducible] def mc42_6 : List (List Nat) := [[110, 121, 220, 232, 330, 341, 341, 351, 440, 451, 451, 451], [110, 121, 220, 232, 330, 341, 341, 440, 351, 451, 451, 451], [110, 121, 220, 232, 330, 341, 341, 440, 451, 351, 451, 451], [110, 121, 220, 232, 330, 341, 341, 440, 451, 451, 351, 451], [110, 121, 220, 232, 330, 341, 341, 440, 451, 451, 451, 351], [110, 121, 220, 232, 330, 341, 351, 341, 440, 451, 451, 451], [110, 121, 220, 232, 330, 351, 341, 341, 440, 451, 451, 451]]
@[irreducible] def mc42_7 : List (List Nat) := [[110, 121, 220, 232, 330, 341, 342, 440, 451, 451, 451, 451], [110, 121, 220, 232, 330, 342, 341, 440, 451, 451, 451, 451]]
@[irreducible] def mc42_8 : List (List Nat) := [[110, 121, 220, 241, 241, 330, 341, 440, 451, 451, 451, 451], [110, 121, 220, 241, 330, 241, 341, 440, 451, 451, 451, 451], [110, 121, 220, 241, 330, 341, 241, 440, 451, 451, 451, 451], [110, 121, 220, 330, 241, 241, 341, 440, 451, 451, 451, 451], [110, 121, 220, 330, 241, 341, 241, 440, 451, 451, 451, 451], [110, 121, 220, 330, 341, 241, 241, 440, 451, 451, 451, 451]]
@[irreducible] def mc42_9 : List (List Nat) := [[110, 131, 220, 231, 330, 341, 341, 351, 440, 451, 451, 451], [110, 131, 220, 231, 330, 341, 341, 440, 351, 451, 451, 451], [110, 131, 220, 231, 330, 341, 341, 440, 451, 351, 451, 451], [110, 131, 220, 231, 330, 341, 341, 440, 451, 451, 351, 451], [110, 131, 220, 231, 330, 341, 341, 440, 451, 451, 451, 351], [110, 131, 220, 231, 330, 341, 351, 341, 440, 451, 451, 451], [110, 131, 220, 231, 330, 351, 341, 341, 440, 451, 451, 451], [110, 220, 131, 231, 330, 341, 341, 351, 440, 451, 451, 451], [110, 220, 131, 231, 330, 341, 341, 440, 351, 451, 451, 451], [110, 220, 131, 231, 330, 341, 341, 440, 451, 351, 451, 451], [110, 220, 131, 231, 330, 341, 341, 440, 451, 451, 351, 451], [110, 220, 131, 231, 330, 341, 341, 440, 451, 451, 451, 351], [110, 220, 131, 231, 330, 341, 351, 341, 440, 451, 451, 451], [110, 220, 131, 231, 330, 351, 341, 341, 440, 451, 451, 451], [110, 220, 231, 131, 330, 341, 341, 351, 440, 451, 451, 451], [110, 220, 231, 131, 330, 341, 341, 440, 351, 451, 451, 451], [110, 220, 231, 131, 330, 341, 341, 440, 451, 351, 451, 451], [110, 220, 231, 131, 330, 341, 341, 440, 451, 451, 351, 451], [110, 220, 231, 131, 330, 341, 341, 440, 451, 451, 451, 351], [110, 220, 231, 131, 330, 341, 351, 341, 440, 451, 451, 451], [110, 220, 231, 131, 330, 351, 341, 341, 440, 451, 451, 451]]
@[irreducible] def mc42_10 : List (List Nat) := [[110, 131, 220, 231, 330, 341, 342, 440, 451, 451, 451, 451], [110, 131, 220, 231, 330, 342, 341, 440, 451, 451, 451, 451], [110, 220, 131, 231, 330, 341, 342, 440, 451, 451, 451, 451], [110, 220, 131, 231, 330, 342, 341, 440, 451, 451, 451, 451], [110, 220, 231, 131, 330, 341, 342, 440, 451, 451, 451, 451], [110, 220, 231, 131, 330, 342, 341, 440, 451, 451, 451, 451]]
@[irreducible] def mc42_11 : List (List Nat) := [[110, 131, 220, 241, 330, 341, 341, 440, 451, 451, 451, 451], [110, 131, 220, 330, 241, 341, 341, 440, 451, 451, 451, 451], [110, 131, 220, 330, 341, 241, 341, 440, 451, 451, 451, 451], [110, 131, 220, 330, 341, 341, 241, 440, 451, 451, 451, 451], [110, 220, 131, 241, 330, 341, 341, 440, 451, 451, 451, 451], [110, 220, 131, 330, 241, 341, 341, 440, 451, 451, 451, 451], [110, 220, 131, 330, 341, 241, 341, 440, 451, 451, 451, 451], [110, 220, 131, 330, 341, 341, 241, 440, 451, 451, 451, 451], [110, 220, 241, 131, 330, 341, 341, 440, 451, 451, 451, 451]]
@[irreducible] def mc42_12 : List (List Nat) := [[110, 141, 220, 231, 330, 341, 341, 440, 451, 451, 451, 451], [110, 220, 141, 231, 330, 341, 341, 440, 451, 451, 451, 451], [110, 220, 231, 141, 330, 341, 341, 440, 451, 451, 451, 451], [110, 220, 231, 330, 141, 341, 341, 440, 451, 451, 451, 451], [110, 220, 231, 330, 341, 141, 341, 440, 451, 451, 451, 451], [110, 220, 231, 330, 341, 341, 141, 440, 451, 451, 451, 451]]
@[irreducible] def mc43_0 : List (List Nat) := [[110, 121, 220, 231, 231, 330, 351, 351, 351, 440, 451], [110, 121, 220, 231, 231, 330, 351, 351, 440, 351, 451], [110, 121, 220, 231, 231, 330, 351, 351, 440, 451, 351], [110, 121, 220, 231, 231, 330, 351, 440, 351, 351, 451], [110, 121, 220, 231, 231, 330, 351, 440, 351, 451, 351], [110, 121, 220, 231, 231, 330, 351, 440, 451, 351, 351], [110, 121, 220, 231, 231, 330, 440, 351, 351, 351, 451], [110, 121, 220, 231, 231, 330, 440, 351, 351, 451, 351], [110, 121, 220, 231, 231, 330, 440, 351, 451, 351, 351], [110, 121, 220, 231, 231, 330, 440, 451, 351, 351, 351]]
@[irreducible] def mc43_1 : List (List Nat) := [[110, 121, 220, 231, 241, 330, 351, 351, 440, 451, 451], [110, 121, 220, 231, 241, 330, 351, 440, 351, 451, 451], [110, 121, 220, 231, 241, 330, 351, 440, 451, 351, 451], [110, 121, 220, 231, 241, 330, 351, 440, 451, 451, 351], [110, 121, 220, 231, 241, 330, 440, 351, 351, 451, 451], [110, 121, 220, 231, 241, 330, 440, 351, 451, 351, 451], [110, 121, 220, 231, 241, 330, 440, 351, 451, 451, 351], [110, 121, 220, 231, 241, 330, 440, 451, 351, 351, 451], [110, 121, 220, 231, 241, 330, 440, 451, 351, 451, 351], [110, 121, 220, 231, 241, 330, 440, 451, 451, 351, 351], [110, 121, 220, 231, 330, 241, 351, 351, 440, 451, 451], [110, 121, 220, 231, 330, 241, 351, 440, 351, 451, 451], [110, 121, 220, 231, 330, 241, 351, 440, 451, 351, 451], [110, 121, 220, 231, 330, 241, 351, 440, 451, 451, 351], [110, 121, 220, 231, 330, 241, 440, 351, 351, 451, 451], [110, 121, 220, 231, 330, 241, 440, 351, 451, 351, 451], [110, 121, 220, 231, 330, 241, 440, 351, 451, 451, 351], [110, 121, 220, 231, 330, 241, 440, 451, 351, 351, 451], [110, 121, 220, 231, 330, 241, 440, 451, 351, 451, 351], [110, 121, 220, 231, 330, 241, 440, 451, 451, 351, 351], [110, 121, 220, 231, 330, 351, 241, 351, 440, 451, 451], [110, 121, 220, 231, 330, 351, 241, 440, 351, 451, 451], [110, 121, 220, 231, 330, 351, 241, 440, 451, 351, 451], [110, 121, 220, 231, 330, 351, 241, 440, 451, 451, 351], [110, 121, 220, 231, 330, 351, 351, 241, 440, 451, 451], [110, 121, 220, 241, 231, 330, 351, 351, 440, 451, 451], [110, 121, 220, 241, 231, 330, 351, 440, 351, 451, 451], [110, 121, 220, 241, 231, 330, 351, 440, 451, 351, 451], [110, 121, 220, 241, 231, 330, 351, 440, 451, 451, 351], [110, 121, 220, 241, 231, 330, 440, 351, 351, 451, 451], [110, 121, 220, 241, 231, 330, 440, 351, 451, 351, 451], [110, 121, 220, 241, 231, 330, 440, 351, 451, 451, 351], [110, 121, 220, 241, 231, 330, 440, 451, 351, 351, 451], [110, 121, 220, 241, 231, 330, 440, 451, 351, 451, 351], [110, 121, 220, 241, 231, 330, 440, 451, 451, 351, 351]]
@[irreducible] def mc43_2 : List (List Nat) := [[110, 121, 220, 231, 251, 330, 341, 351, 440, 451, 451], [110, 121, 220, 231, 251, 330, 341, 440, 351, 451, 451], [110, 121, 220, 231, 251, 330, 341, 440, 451, 351, 451], [110, 121, 220, 231, 251, 330, 341, 440, 451, 451, 351], [110, 121, 220, 231, 251, 330, 351, 341, 440, 451, 451], [110, 121, 220, 231, 330, 251, 341, 351, 440, 451, 451], [110, 121, 220, 231, 330, 251, 341, 440, 351, 451, 451], [110, 121, 220, 231, 330, 251, 341, 440, 451, 351, 451], [110, 121, 220, 231, 330, 251, 341, 440, 451, 451, 351], [110, 121, 220, 231, 330, 251, 351, 341, 440, 451, 451], [110, 121, 220, 231, 330, 341, 251, 351, 440, 451, 451], [110, 121, 220, 231, 330, 341, 251, 440, 351, 451, 451], [110, 121, 220, 231, 330, 341, 251, 440, 451, 351, 451], [110, 121, 220, 231, 330, 341, 251, 440, 451, 451, 351], [110, 121, 220, 231, 330, 341, 351, 251, 440, 451, 451], [110, 121, 220, 231, 330, 341, 351, 440, 251, 451, 451], [110, 121, 220, 231, 330, 341, 351, 440, 451, 251, 451], [110, 121, 220, 231, 330, 341, 351, 440, 451, 451, 251], [110, 121, 220, 231, 330, 341, 440, 251, 351, 451, 451], [110, 121, 220, 231, 330, 341, 440, 251, 451, 351, 451], [110, 121, 220, 231, 330, 341, 440, 251, 451, 451, 351], [110, 121, 220, 231, 330, 341, 440, 351, 251, 451, 451], [110, 121, 220, 231, 330, 341, 440, 351, 451, 251, 451], [110, 121, 220, 231, 330, 341, 440, 351, 451, 451, 251], [110, 121, 220, 231, 330, 341, 440, 451, 251, 351, 451], [110, 121, 220, 231, 330, 341, 440, 451, 251, 451, 351], [110, 121, 220, 231, 330, 341, 440, 451, 351, 251, 451], [110, 121, 220, 231, 330, 341, 440, 451, 351, 451, 251], [110, 121, 220, 231, 330, 341, 440, 451, 451, 251, 351], [110, 121, 220, 231, 330, 341, 440, 451, 451, 351, 251], [110, 121, 220, 231, 330, 351, 251, 341, 440, 451, 451], [110, 121, 220, 231, 330, 351, 341, 251, 440, 451, 451], [110, 121, 220, 231, 330, 351, 341, 440, 251, 451, 451], [110, 121, 220, 231, 330, 351, 341, 440, 451, 251, 451], [110, 121, 220, 231, 330, 351, 341, 440, 451, 451, 251], [110, 121, 220, 251, 231, 330, 341, 351, 440, 451, 451], [110, 121, 220, 251, 231, 330, 341, 440, 351, 451, 451], [110, 121, 220, 251, 231, 330, 341, 440, 451, 351, 451], [110, 121, 220, 251, 231, 330, 341, 440, 451, 451, 351], [110, 121, 220, 251, 231, 330, 351, 341, 440, 451, 451]]
@[irreducible] def mc43_3 : List (List Nat) := [[110, 121, 220, 231, 251, 330, 342, 440, 451, 451, 451], [110, 121, 220, 231, 330, 251, 342, 440, 451, 451, 451], [110, 121, 220, 231, 330, 342, 251, 440, 451, 451, 451], [110, 121, 220, 231, 330, 342, 440, 251, 451, 451, 451], [110, 121, 220, 231, 330, 342, 440, 451, 251, 451, 451], [110, 121, 220, 231, 330, 342, 440, 451, 451, 251, 451], [110, 121, 220, 231, 330, 342, 440, 451, 451, 451, 251], [110, 121, 220, 251, 231, 330, 342, 440, 451, 451, 451]]
@[irreducible] def mc43_4 : List (List Nat) := [[110, 121, 220, 232, 330, 341, 351, 351, 440, 451, 451], [110, 121, 220, 232, 330, 341, 351, 440, 351, 451, 451], [110, 121, 220, 232, 330, 341, 351, 440, 451, 351, 451], [110, 121, 220, 232, 330, 341, 351, 440, 451, 451, 351], [110, 121, 220, 232, 330, 341, 440, 351, 351, 451, 451], [110, 121, 220, 232, 330, 341, 440, 351, 451, 351, 451], [110, 121, 220, 232, 330, 341, 440, 351, 451, 451, 351], [110, 121, 220, 232, 330, 341, 440, 451, 351, 351, 451], [110, 121, 220, 232, 330, 341, 440, 451, 351, 451, 351], [110, 121, 220, 232, 330, 341, 440, 451, 451, 351, 351], [110, 121, 220, 232, 330, 351, 341, 351, 440, 451, 451], [110, 121, 220, 232, 330, 351, 341, 440, 351, 451, 451], [110, 121, 220, 232, 330, 351, 341, 440, 451, 351, 451], [110, 121, 220, 232, 330, 351, 341, 440, 451, 451, 351], [110, 121, 220, 232, 330, 351, 351, 341, 440, 451, 451]]
@[irreducible] def mc43_5 : List (List Nat) := [[110, 121, 220, 232, 330, 342, 351, 440, 451, 451, 451], [110, 121, 220, 232, 330, 342, 440, 351, 451, 451, 451], [110, 121, 220, 232, 330, 342, 440, 451, 351, 451, 451], [110, 121, 220, 232, 330, 342, 440, 451, 451, 351, 451], [110, 121, 220, 232, 330, 342, 440, 451, 451, 451, 351], [110, 121, 220, 232, 330, 351, 342, 440, 451, 451, 451]]
@[irreducible] def mc43_6 : List (List Nat) := [[110, 121, 220, 232, 330, 343, 440, 451, 451, 451, 451]]
@[irreducible] def mc43_7 : List (List Nat) := [[110, 121, 220, 241, 241, 330, 351, 440, 451, 451, 451], [110, 121, 220, 241, 241, 330, 440, 351, 451, 451, 451], [110, 121, 220, 241, 241, 330, 440, 451, 351, 451, 451], [110, 121, 220, 241, 241, 330, 440, 451, 451, 351, 451], [110, 121, 220, 241, 241, 330, 440, 451, 451, 451, 351], [110, 121, 220, 241, 330, 241, 351, 440, 451, 451, 451], [110, 121, 220, 241, 330, 241, 440, 351, 451, 451, 451], [110, 121, 220, 241, 330, 241, 440, 451, 351, 451, 451], [110, 121, 220, 241, 330, 241, 440, 451, 451, 351, 451], [110, 121, 220, 241, 330, 241, 440, 451, 451, 451, 351], [110, 121, 220, 241, 330, 351, 241, 440, 451, 451, 451], [110, 121, 220, 330, 241, 241, 351, 440, 451, 451, 451], [110, 121, 220, 330, 241, 241, 440, 351, 451, 451, 451], [110, 121, 220, 330, 241, 241, 440, 451, 351, 451, 451], [110, 121, 220, 330, 241, 241, 440, 451, 451, 351, 451], [110, 121, 220, 330, 241, 241, 440, 451, 451, 451, 351], [110, 121, 220, 330, 241, 351, 241, 440, 451, 451, 451], [110, 121, 220, 330, 351, 241, 241, 440, 451, 451, 451]]
@[irreducible] def mc43_8 : List (List Nat) := [[110, 121, 220, 241, 251, 330, 341, 440, 451, 451, 451], [110, 121, 220, 241, 330, 251, 341, 440, 451, 451, 451], [110, 121, 220, 241, 330, 341, 251, 440, 451, 451, 451], [110, 121, 220, 241, 330, 341, 440, 251, 451, 451, 451], [110, 121, 220, 241, 330, 341, 440, 451, 251, 451, 451], [110, 121, 220, 241, 330, 341, 440, 451, 451, 251, 451], [110, 121, 220, 241, 330, 341, 440, 451, 451, 451, 251], [110, 121, 220, 251, 241, 330, 341, 440, 451, 451, 451], [110, 121, 220, 251, 330, 241, 341, 440, 451, 451, 451], [110, 121, 220, 251, 330, 341, 241, 440, 451, 451, 451], [110, 121, 220, 330, 241, 251, 341, 440, 451, 451, 451], [110, 121, 220, 330, 241, 341, 251, 440, 451, 451, 451], [110, 121, 220, 330, 241, 341, 440, 251, 451, 451, 451], [110, 121, 220, 330, 241, 341, 440, 451, 251, 451, 451], [110, 121, 220, 330, 241, 341, 440, 451, 451, 251, 451], [110, 121, 220, 330, 241, 341, 440, 451, 451, 451, 251], [110, 121, 220, 330, 251, 241, 341, 440, 451, 451, 451], [110, 121, 220, 330, 251, 341, 241, 440, 451, 451, 451], [110, 121, 220, 330, 341, 241, 251, 440, 451, 451, 451], [110, 121, 220, 330, 341, 241, 440, 251, 451, 451, 451], [110, 121, 220, 330, 341, 241, 440, 451, 251, 451, 451], [110, 121, 220, 330, 341, 241, 440, 451, 451, 251, 451], [110, 121, 220, 330, 341, 241, 440, 451, 451, 451, 251], [110, 121, 220, 330, 341, 251, 241, 440, 451, 451, 451]]
@[irreducible] def mc43_9 : List (List Nat) := [[110, 121, 220, 242, 330, 341, 440, 451, 451, 451, 451], [110, 121, 220, 330, 242, 341, 440, 451, 451, 451, 451], [110, 121, 220, 330, 341, 242, 440, 451, 451, 451, 451]]
@[irreducible] def mc43_10 : List (List Nat) := [[110, 131, 220, 231, 330, 341, 351, 351, 440, 451, 451], [110, 131, 220, 231, 330, 341, 351, 440, 351, 451, 451], [110, 131, 220, 231, 330, 341, 351, 440, 451, 351, 451], [110, 131, 220, 231, 330, 341, 351, 440, 451, 451, 351], [110, 131, 220, 231, 330, 341, 440, 351, 351, 451, 451], [110, 131, 220, 231, 330, 341, 440, 351, 451, 351, 451], [110, 131, 220, 231, 330, 341, 440, 351, 451, 451, 351], [110, 131, 220, 231, 330, 341, 440, 451, 351, 351, 451], [110, 131, 220, 231, 330, 341, 440, 451, 351, 451, 351], [110, 131, 220, 231, 330, 341, 440, 451, 451, 351, 351], [110, 131, 220, 231, 330, 351, 341, 351, 440, 451, 451], [110, 131, 220, 231, 330, 351, 341, 440, 351, 451, 451], [110, 131, 220, 231, 330, 351, 341, 440, 451, 351, 451], [110, 131, 220, 231, 330, 351, 341, 440, 451, 451, 351], [110, 131, 220, 231, 330, 351, 351, 341, 440, 451, 451], [110, 220, 131, 231, 330, 341, 351, 351, 440, 451, 451], [110, 220, 131, 231, 330, 341, 351, 440, 351, 451, 451], [110, 220, 131, 231, 330, 341, 351, 440, 451, 351, 451], [110, 220, 131, 231, 330, 341, 351, 440, 451, 451, 351], [110, 220, 131, 231, 330, 341, 440, 351, 351, 451, 451], [110, 220, 131, 231, 330, 341, 440, 351, 451, 351, 451], [110, 220, 131, 231, 330, 341, 440, 351, 451, 451, 351], [110, 220, 131, 231, 330, 341, 440, 451, 351, 351, 451], [110, 220, 131, 231, 330, 341, 440, 451, 351, 451, 351], [110, 220, 131, 231, 330, 341, 440, 451, 451, 351, 351], [110, 220, 131, 231, 330, 351, 341, 351, 440, 451, 451], [110, 220, 131, 231, 330, 351, 341, 440, 351, 451, 451], [110, 220, 131, 231, 330, 351, 341, 440, 451, 351, 451], [110, 220, 131, 231, 330, 351, 341, 440, 451, 451, 351], [110, 220, 131, 231, 330, 351, 351, 341, 440, 451, 451], [110, 220, 231, 131, 330, 341, 351, 351, 440, 451, 451], [110, 220, 231, 131, 330, 341, 351, 440, 351, 451, 451], [110, 220, 231, 131, 330, 341, 351, 440, 451, 351, 451], [110, 220, 231, 131, 330, 341, 351, 440, 451, 451, 351], [110, 220, 231, 131, 330, 341, 440, 351, 351, 451, 451], [110, 220, 231, 131, 330, 341, 440, 351, 451, 351, 451], [110, 220, 231, 131, 330, 341, 440, 351, 451, 451, 351], [110, 220, 231, 131, 330, 341, 440, 451, 351, 351, 451], [110, 220, 231, 131, 330, 341, 440, 451, 351, 451, 351], [110, 220, 231, 131, 330, 341, 440, 451, 451, 351, 351], [110, 220, 231, 131, 330, 351, 341, 351, 440, 451, 451], [110, 220, 231, 131, 330, 351, 341, 440, 351, 451, 451], [110, 220, 231, 131, 330, 351, 341, 440, 451, 351, 451], [110, 220, 231, 131, 330, 351, 341, 440, 451, 451, 351], [110, 220, 231, 131, 330, 351, 351, 341, 440, 451, 451]]
@[irreducible] def mc43_11 : List (List Nat) := [[110, 131, 220, 231, 330, 342, 351, 440, 451, 451, 451], [110, 131, 220, 231, 330, 342, 440, 351, 451, 451, 451], [110, 131, 220, 231, 330, 342, 440, 451, 351, 451, 451], [110, 131, 220, 231, 330, 342, 440, 451, 451, 351, 451], [110, 131, 220, 231, 330, 342, 440, 451, 451, 451, 351], [110, 131, 220, 231, 330, 351, 342, 440, 451, 451, 451], [110, 220, 131, 231, 330, 342, 351, 440, 451, 451, 451], [110, 220, 131, 231, 330, 342, 440, 351, 451, 451, 451], [110, 220, 131, 231, 330, 342, 440, 451, 351, 451, 451], [110, 220, 131, 231, 330, 342, 440, 451, 451, 351, 451], [110, 220, 131, 231, 330, 342, 440, 451, 451, 451, 351], [110, 220, 131, 231, 330, 351, 342, 440, 451, 451, 451], [110, 220, 231, 131, 330, 342, 351, 440, 451, 451, 451], [110, 220, 231, 131, 330, 342, 440, 351, 451, 451, 451], [110, 220, 231, 131, 330, 342, 440, 451, 351, 451, 451], [110, 220, 231, 131, 330, 342, 440, 451, 451, 351, 451], [110, 220, 231, 131, 330, 342, 440, 451, 451, 451, 351], [110, 220, 231, 131, 330, 351, 342, 440, 451, 451, 451]]
@[irreducible] def mc43_12 : List (List Nat) := [[110, 131, 220, 231, 330, 343, 440, 451, 451, 451, 451], [110, 220, 131, 231, 330, 343, 440, 451, 451, 451, 451], [110, 220, 231, 131, 330, 343, 440, 451, 451, 451, 451]]
@[irreducible] def mc43_13 : List (List Nat) := [[110, 131, 220, 241, 330, 341, 351, 440, 451, 451, 451], [110, 131, 220, 241, 330, 341, 440, 351, 451, 451, 451], [110, 131, 220, 241, 330, 341, 440, 451, 351, 451, 451], [110, 131, 220, 241, 330, 341, 440, 451, 451, 351, 451], [110, 131, 220, 241, 330, 341, 440, 451, 451, 451, 351], [110, 131, 220, 241, 330, 351, 341, 440, 451, 451, 451], [110, 131, 220, 330, 241, 341, 351, 440, 451, 451, 451], [110, 131, 220, 330, 241, 341, 440, 351, 451, 451, 451], [110, 131, 220, 330, 241, 341, 440, 451, 351, 451, 451], [110, 131, 220, 330, 241, 341, 440, 451, 451, 351, 451], [110, 131, 220, 330, 241, 341, 440, 451, 451, 451, 351], [110, 131, 220, 330, 241, 351, 341, 440, 451, 451, 451], [110, 131, 220, 330, 341, 241, 351, 440, 451, 451, 451], [110, 131, 220, 330, 341, 241, 440, 351, 451, 451, 451], [110, 131, 220, 330, 341, 241, 440, 451, 351, 451, 451], [110, 131, 220, 330, 341, 241, 440, 451, 451, 351, 451], [110, 131, 220, 330, 341, 241, 440, 451, 451, 451, 351], [110, 131, 220, 330, 341, 351, 241, 440, 451, 451, 451], [110, 131, 220, 330, 351, 241, 341, 440, 451, 451, 451], [110, 131, 220, 330, 351, 341, 241, 440, 451, 451, 451], [110, 220, 131, 241, 330, 341, 351, 440, 451, 451, 451], [110, 220, 131, 241, 330, 341, 440, 351, 451, 451, 451], [110, 220, 131, 241, 330, 341, 440, 451, 351, 451, 451], [110, 220, 131, 241, 330, 341, 440, 451, 451, 351, 451], [110, 220, 131, 241, 330, 341, 440, 451, 451, 451, 351], [110, 220, 131, 241, 330, 351, 341, 440, 451, 451, 451], [110, 220, 131, 330, 241, 341, 351, 440, 451, 451, 451], [110, 220, 131, 330, 241, 341, 440, 351, 451, 451, 451], [110, 220, 131, 330, 241, 341, 440, 451, 351, 451, 451], [110, 220, 131, 330, 241, 341, 440, 451, 451, 351, 451], [110, 220, 131, 330, 241, 341, 440, 451, 451, 451, 351], [110, 220, 131, 330, 241, 351, 341, 440, 451, 451, 451], [110, 220, 131, 330, 341, 241, 351, 440, 451, 451, 451], [110, 220, 131, 330, 341, 241, 440, 351, 451, 451, 451], [110, 220, 131, 330, 341, 241, 440, 451, 351, 451, 451], [110, 220, 131, 330, 341, 241, 440, 451, 451, 351, 451], [110, 220, 131, 330, 341, 241, 440, 451, 451, 451, 351], [110, 220, 131, 330, 341, 351, 241, 440, 451, 451, 451], [110, 220, 131, 330, 351, 241, 341, 440, 451, 451, 451], [110, 220, 131, 330, 351, 341, 241, 440, 451, 451, 451], [110, 220, 241, 131, 330, 341, 351, 440, 451, 451, 451], [110, 220, 241, 131, 330, 341, 440, 351, 451, 451, 451], [110, 220, 241, 131, 330, 341, 440, 451, 351, 451, 451], [110, 220, 241, 131, 330, 341, 440, 451, 451, 351, 451], [110, 220, 241, 131, 330, 341, 440, 451, 451, 451, 351], [110, 220, 241, 131, 330, 351, 341, 440, 451, 451, 451]]
@[irreducible] def mc43_14 : List (List Nat) := [[110, 131, 220, 241, 330, 342, 440, 451, 451, 451, 451], [110, 131, 220, 330, 241, 342, 440, 451, 451, 451, 451], [110, 131, 220, 330, 342, 241, 440, 451, 451, 451, 451], [110, 220, 131, 241, 330, 342, 440, 451, 451, 451, 451], [110, 220, 131, 330, 241, 342, 440, 451, 451, 451, 451], [110, 220, 131, 330, 342, 241, 440, 451, 451, 451, 451], [110, 220, 241, 131, 330, 342, 440, 451, 451, 451, 451]]
@[irreducible] def mc43_15 : List (List Nat) := [[110, 131, 220, 251, 330, 341, 341, 440, 451, 451, 451], [110, 131, 220, 330, 251, 341, 341, 440, 451, 451, 451], [110, 131, 220, 330, 341, 251, 341, 440, 451, 451, 451], [110, 131, 220, 330, 341, 341, 251, 440, 451, 451, 451], [110, 131, 220, 330, 341, 341, 440, 251, 451, 451, 451], [110, 131, 220, 330, 341, 341, 440, 451, 251, 451, 451], [110, 131, 220, 330, 341, 341, 440, 451, 451, 251, 451], [110, 131, 220, 330, 341, 341, 440, 451, 451, 451, 251], [110, 220, 131, 251, 330, 341, 341, 440, 451, 451, 451], [110, 220, 131, 330, 251, 341, 341, 440, 451, 451, 451], [110, 220, 131, 330, 341, 251, 341, 440, 451, 451, 451], [110, 220, 131, 330, 341, 341, 251, 440, 451, 451, 451], [110, 220, 131, 330, 341, 341, 440, 251, 451, 451, 451], [110, 220, 131, 330, 341, 341, 440, 451, 251, 451, 451], [110, 220, 131, 330, 341, 341, 440, 451, 451, 251, 451], [110, 220, 131, 330, 341, 341, 440, 451, 451, 451, 251], [110, 220, 251, 131, 330, 341, 341, 440, 451, 451, 451]]
@[irreducible] def mc43_16 : List (List Nat) := [[110, 141, 220, 231, 330, 341, 351, 440, 451, 451, 451], [110, 141, 220, 231, 330, 341, 440, 351, 451, 451, 451], [110, 141, 220, 231, 330, 341, 440, 451, 351, 451, 451], [110, 141, 220, 231, 330, 341, 440, 451, 451, 351, 451], [110, 141, 220, 231, 330, 341, 440, 451, 451, 451, 351], [110, 141, 220, 231, 330, 351, 341, 440, 451, 451, 451], [110, 220, 141, 231, 330, 341, 351, 440, 451, 451, 451], [110, 220, 141, 231, 330, 341, 440, 351, 451, 451, 451], [110, 220, 141, 231, 330, 341, 440, 451, 351, 451, 451], [110, 220, 141, 231, 330, 341, 440, 451, 451, 351, 451], [110, 220, 141, 231, 330, 341, 440, 451, 451, 451, 351], [110, 220, 141, 231, 330, 351, 341, 440, 451, 451, 451], [110, 220, 231, 141, 330, 341, 351, 440, 451, 451, 451], [110, 220, 231, 141, 330, 341, 440, 351, 451, 451, 451], [110, 220, 231, 141, 330, 341, 440, 451, 351, 451, 451], [110, 220, 231, 141, 330, 341, 440, 451, 451, 351, 451], [110, 220, 231, 141, 330, 341, 440, 451, 451, 451, 351], [110, 220, 231, 141, 330, 351, 341, 440, 451, 451, 451], [110, 220, 231, 330, 141, 341, 351, 440, 451, 451, 451], [110, 220, 231, 330, 141, 341, 440, 351, 451, 451, 451], [110, 220, 231, 330, 141, 341, 440, 451, 351, 451, 451], [110, 220, 231, 330, 141, 341, 440, 451, 451, 351, 451], [110, 220, 231, 330, 141, 341, 440, 451, 451, 451, 351], [110, 220, 231, 330, 141, 351, 341, 440, 451, 451, 451], [110, 220, 231, 330, 341, 141, 351, 440, 451, 451, 451], [110, 220, 231, 330, 341, 141, 440, 351, 451, 451, 451], [110, 220, 231, 330, 341, 141, 440, 451, 351, 451, 451], [110, 220, 231, 330, 341, 141, 440, 451, 451, 351, 451], [110, 220, 231, 330, 341, 141, 440, 451, 451, 451, 351], [110, 220, 231, 330, 341, 351, 141, 440, 451, 451, 451], [110, 220, 231, 330, 351, 141, 341, 440, 451, 451, 451], [110, 220, 231, 330, 351, 341, 141, 440, 451, 451, 451]]
@[irreducible] def mc43_17 : List (List Nat) := [[110, 141, 220, 231, 330, 342, 440, 451, 451, 451, 451], [110, 220, 141, 231, 330, 342, 440, 451, 451, 451, 451], [110, 220, 231, 141, 330, 342, 440, 451, 451, 451, 451], [110, 220, 231, 330, 141, 342, 440, 451, 451, 451, 451], [110, 220, 231, 330, 342, 141, 440, 451, 451, 451, 451]]
@[irreducible] def mc43_18 : List (List Nat) := [[110, 141, 220, 241, 330, 341, 440, 451, 451, 451, 451], [110, 141, 220, 330, 241, 341, 440, 451, 451, 451, 451], [110, 141, 220, 330, 341, 241, 440, 451, 451, 451, 451], [110, 220, 141, 241, 330, 341, 440, 451, 451, 451, 451], [110, 220, 141, 330, 241, 341, 440, 451, 451, 451, 451], [110, 220, 141, 330, 341, 241, 440, 451, 451, 451, 451], [110, 220, 241, 141, 330, 341, 440, 451, 451, 451, 451], [110, 220, 241, 330, 141, 341, 440, 451, 451, 451, 451], [110, 220, 241, 330, 341, 141, 440, 451, 451, 451, 451], [110, 220, 330, 141, 241, 341, 440, 451, 451, 451, 451], [110, 220, 330, 141, 341, 241, 440, 451, 451, 451, 451], [110, 220, 330, 241, 141, 341, 440, 451, 451, 451, 451], [110, 220, 330, 241, 341, 141, 440, 451, 451, 451, 451], [110, 220, 330, 341, 141, 241, 440, 451, 451, 451, 451], [110, 220, 330, 341, 241, 141, 440, 451, 451, 451, 451]]
@[irreducible] def mc43_19 : List (List Nat) := [[110, 151, 220, 231, 330, 341, 341, 440, 451, 451, 451], [110, 220, 151, 231, 330, 341, 341, 440, 451, 451, 451], [110, 220, 231, 151, 330, 341, 341, 440, 451, 451, 451], [110, 220, 231, 330, 151, 341, 341, 440, 451, 451, 451], [110, 220, 231, 330, 341, 151, 341, 440, 451, 451, 451], [110, 220, 231, 330, 341, 341, 151, 440, 451, 451, 451], [110, 220, 231, 330, 341, 341, 440, 151, 451, 451, 451], [110, 220, 231, 330, 341, 341, 440, 451, 151, 451, 451], [110, 220, 231, 330, 341, 341, 440, 451, 451, 151, 451], [110, 220, 231, 330, 341, 341, 440, 451, 451, 451, 151]]
@[irreducible] def mc44_0 : List (List Nat) := [[110, 121, 220, 231, 251, 330, 351, 351, 440, 451], [110, 121, 220, 231, 251, 330, 351, 440, 351, 451], [110, 121, 220, 231, 251, 330, 351, 440, 451, 351], [110, 121, 220, 231, 251, 330, 440, 351, 351, 451], [110, 121, 220, 231, 251, 330, 440, 351, 451, 351], [110, 121, 220, 231, 251, 330, 440, 451, 351, 351], [110, 121, 220, 231, 330, 251, 351, 351, 440, 451], [110, 121, 220, 231, 330, 251, 351, 440, 351, 451], [110, 121, 220, 231, 330, 251, 351, 440, 451, 351], [110, 121, 220, 231, 330, 251, 440, 351, 351, 451], [110, 121, 220, 231, 330, 251, 440, 351, 451, 351], [110, 121, 220, 231, 330, 251, 440, 451, 351, 351], [110, 121, 220, 231, 330, 351, 251, 351, 440, 451], [110, 121, 220, 231, 330, 351, 251, 440, 351, 451], [110, 121, 220, 231, 330, 351, 251, 440, 451, 351], [110, 121, 220, 231, 330, 351, 351, 251, 440, 451], [110, 121, 220, 231, 330, 351, 351, 440, 251, 451], [110, 121, 220, 231, 330, 351, 351, 440, 451, 251], [110, 121, 220, 231, 330, 351, 440, 251, 351, 451], [110, 121, 220, 231, 330, 351, 440, 251, 451, 351], [110, 121, 220, 231, 330, 351, 440, 351, 251, 451], [110, 121, 220, 231, 330, 351, 440, 351, 451, 251], [110, 121, 220, 231, 330, 351, 440, 451, 251, 351], [110, 121, 220, 231, 330, 351, 440, 451, 351, 251], [110, 121, 220, 231, 330, 440, 251, 351, 351, 451], [110, 121, 220, 231, 330, 440, 251, 351, 451, 351], [110, 121, 220, 231, 330, 440, 251, 451, 351, 351], [110, 121, 220, 231, 330, 440, 351, 251, 351, 451], [110, 121, 220, 231, 330, 440, 351, 251, 451, 351], [110, 121, 220, 231, 330, 440, 351, 351, 251, 451], [110, 121, 220, 231, 330, 440, 351, 351, 451, 251], [110, 121, 220, 231, 330, 440, 351, 451, 251, 351], [110, 121, 220, 231, 330, 440, 351, 451, 351, 251], [110, 121, 220, 231, 330, 440, 451, 251, 351, 351], [110, 121, 220, 231, 330, 440, 451, 351, 251, 351], [110, 121, 220, 231, 330, 440, 451, 351, 351, 251], [110, 121, 220, 251, 231, 330, 351, 351, 440, 451], [110, 121, 220, 251, 231, 330, 351, 440, 351, 451], [110, 121, 220, 251, 231, 330, 351, 440, 451, 351], [110, 121, 220, 251, 231, 330, 440, 351, 351, 451], [110, 121, 220, 251, 231, 330, 440, 351, 451, 351], [110, 121, 220, 251, 231, 330, 440, 451, 351, 351]]
@[irreducible] def mc44_1 : List (List Nat) := [[110, 121, 220, 232, 330, 351, 351, 351, 440, 451], [110, 121, 220, 232, 330, 351, 351, 440, 351, 451], [110, 121, 220, 232, 330, 351, 351, 440, 451, 351], [110, 121, 220, 232, 330, 351, 440, 351, 351, 451], [110, 121, 220, 232, 330, 351, 440, 351, 451, 351], [110, 121, 220, 232, 330, 351, 440, 451, 351, 351], [110, 121, 220, 232, 330, 440, 351, 351, 351, 451], [110, 121, 220, 232, 330, 440, 351, 351, 451, 351], [110, 121, 220, 232, 330, 440, 351, 451, 351, 351], [110, 121, 220, 232, 330, 440, 451, 351, 351, 351]]
@[irreducible] def mc44_2 : List (List Nat) := [[110, 121, 220, 241, 251, 330, 351, 440, 451, 451], [110, 121, 220, 241, 251, 330, 440, 351, 451, 451], [110, 121, 220, 241, 251, 330, 440, 451, 351, 451], [110, 121, 220, 241, 251, 330, 440, 451, 451, 351], [110, 121, 220, 241, 330, 251, 351, 440, 451, 451], [110, 121, 220, 241, 330, 251, 440, 351, 451, 451], [110, 121, 220, 241, 330, 251, 440, 451, 351, 451], [110, 121, 220, 241, 330, 251, 440, 451, 451, 351], [110, 121, 220, 241, 330, 351, 251, 440, 451, 451], [110, 121, 220, 241, 330, 351, 440, 251, 451, 451], [110, 121, 220, 241, 330, 351, 440, 451, 251, 451], [110, 121, 220, 241, 330, 351, 440, 451, 451, 251], [110, 121, 220, 241, 330, 440, 251, 351, 451, 451], [110, 121, 220, 241, 330, 440, 251, 451, 351, 451], [110, 121, 220, 241, 330, 440, 251, 451, 451, 351], [110, 121, 220, 241, 330, 440, 351, 251, 451, 451], [110, 121, 220, 241, 330, 440, 351, 451, 251, 451], [110, 121, 220, 241, 330, 440, 351, 451, 451, 251], [110, 121, 220, 241, 330, 440, 451, 251, 351, 451], [110, 121, 220, 241, 330, 440, 451, 251, 451, 351], [110, 121, 220, 241, 330, 440, 451, 351, 251, 451], [110, 121, 220, 241, 330, 440, 451, 351, 451, 251], [110, 121, 220, 241, 330, 440, 451, 451, 251, 351], [110, 121, 220, 241, 330, 440, 451, 451, 351, 251], [110, 121, 220, 251, 241, 330, 351, 440, 451, 451], [110, 121, 220, 251, 241, 330, 440, 351, 451, 451], [110, 121, 220, 251, 241, 330, 440, 451, 351, 451], [110, 121, 220, 251, 241, 330, 440, 451, 451, 351], [110, 121, 220, 251, 330, 241, 351, 440, 451, 451], [110, 121, 220, 251, 330, 241, 440, 351, 451, 451], [110, 121, 220, 251, 330, 241, 440, 451, 351, 451], [110, 121, 220, 251, 330, 241, 440, 451, 451, 351], [110, 121, 220, 251, 330, 351, 241, 440, 451, 451], [110, 121, 220, 330, 241, 251, 351, 440, 451, 451], [110, 121, 220, 330, 241, 251, 440, 351, 451, 451], [110, 121, 220, 330, 241, 251, 440, 451, 351, 451], [110, 121, 220, 330, 241, 251, 440, 451, 451, 351], [110, 121, 220, 330, 241, 351, 251, 440, 451, 451], [110, 121, 220, 330, 241, 351, 440, 251, 451, 451], [110, 121, 220, 330, 241, 351, 440, 451, 251, 451], [110, 121, 220, 330, 241, 351, 440, 451, 451, 251], [110, 121, 220, 330, 241, 440, 251, 351, 451, 451], [110, 121, 220, 330, 241, 440, 251, 451, 351, 451], [110, 121, 220, 330, 241, 440, 251, 451, 451, 351], [110, 121, 220, 330, 241, 440, 351, 251, 451, 451], [110, 121, 220, 330, 241, 440, 351, 451, 251, 451], [110, 121, 220, 330, 241, 440, 351, 451, 451, 251], [110, 121, 220, 330, 241, 440, 451, 251, 351, 451], [110, 121, 220, 330, 241, 440, 451, 251, 451, 351], [110, 121, 220, 330, 241, 440, 451, 351, 251, 451], [110, 121, 220, 330, 241, 440, 451, 351, 451, 251], [110, 121, 220, 330, 241, 440, 451, 451, 251, 351], [110, 121, 220, 330, 241, 440, 451, 451, 351, 251], [110, 121, 220, 330, 251, 241, 351, 440, 451, 451], [110, 121, 220, 330, 251, 241, 440, 351, 451, 451], [110, 121, 220, 330, 251, 241, 440, 451, 351, 451], [110, 121, 220, 330, 251, 241, 440, 451, 451, 351], [110, 121, 220, 330, 251, 351, 241, 440, 451, 451], [110, 121, 220, 330, 351, 241, 251, 440, 451, 451], [110, 121, 220, 330, 351, 241, 440, 251, 451, 451], [110, 121, 220, 330, 351, 241, 440, 451, 251, 451], [110, 121, 220, 330, 351, 241, 440, 451, 451, 251], [110, 121, 220, 330, 351, 251, 241, 440, 451, 451]]
@[irreducible] def mc44_3 : List (List Nat) := [[110, 121, 220, 242, 330, 351, 440, 451, 451, 451], [110, 121, 220, 242, 330, 440, 351, 451, 451, 451], [110, 121, 220, 242, 330, 440, 451, 351, 451, 451], [110, 121, 220, 242, 330, 440, 451, 451, 351, 451], [110, 121, 220, 242, 330, 440, 451, 451, 451, 351], [110, 121, 220, 330, 242, 351, 440, 451, 451, 451], [110, 121, 220, 330, 242, 440, 351, 451, 451, 451], [110, 121, 220, 330, 242, 440, 451, 351, 451, 451], [110, 121, 220, 330, 242, 440, 451, 451, 351, 451], [110, 121, 220, 330, 242, 440, 451, 451, 451, 351], [110, 121, 220, 330, 351, 242, 440, 451, 451, 451]]
@[irreducible] def mc44_4 : List (List Nat) := [[110, 121, 220, 251, 251, 330, 341, 440, 451, 451], [110, 121, 220, 251, 330, 251, 341, 440, 451, 451], [110, 121, 220, 251, 330, 341, 251, 440, 451, 451], [110, 121, 220, 251, 330, 341, 440, 251, 451, 451], [110, 121, 220, 251, 330, 341, 440, 451, 251, 451], [110, 121, 220, 251, 330, 341, 440, 451, 451, 251], [110, 121, 220, 330, 251, 251, 341, 440, 451, 451], [110, 121, 220, 330, 251, 341, 251, 440, 451, 451], [110, 121, 220, 330, 251, 341, 440, 251, 451, 451], [110, 121, 220, 330, 251, 341, 440, 451, 251, 451], [110, 121, 220, 330, 251, 341, 440, 451, 451, 251], [110, 121, 220, 330, 341, 251, 251, 440, 451, 451], [110, 121, 220, 330, 341, 251, 440, 251, 451, 451], [110, 121, 220, 330, 341, 251, 440, 451, 251, 451], [110, 121, 220, 330, 341, 251, 440, 451, 451, 251], [110, 121, 220, 330, 341, 440, 251, 251, 451, 451], [110, 121, 220, 330, 341, 440, 251, 451, 251, 451], [110, 121, 220, 330, 341, 440, 251, 451, 451, 251], [110, 121, 220, 330, 341, 440, 451, 251, 251, 451], [110, 121, 220, 330, 341, 440, 451, 251, 451, 251], [110, 121, 220, 330, 341, 440, 451, 451, 251, 251]]
@[irreducible] def mc44_5 : List (List Nat) := [[110, 131, 220, 231, 330, 351, 351, 351, 440, 451], [110, 131, 220, 231, 330, 351, 351, 440, 351, 451], [110, 131, 220, 231, 330, 351, 351, 440, 451, 351], [110, 131, 220, 231, 330, 351, 440, 351, 351, 451], [110, 131, 220, 231, 330, 351, 440, 351, 451, 351], [110, 131, 220, 231, 330, 351, 440, 451, 351, 351], [110, 131, 220, 231, 330, 440, 351, 351, 351, 451], [110, 131, 220, 231, 330, 440, 351, 351, 451, 351], [110, 131, 220, 231, 330, 440, 351, 451, 351, 351], [110, 131, 220, 231, 330, 440, 451, 351, 351, 351], [110, 220, 131, 231, 330, 351, 351, 351, 440, 451], [110, 220, 131, 231, 330, 351, 351, 440, 351, 451], [110, 220, 131, 231, 330, 351, 351, 440, 451, 351], [110, 220, 131, 231, 330, 351, 440, 351, 351, 451], [110, 220, 131, 231, 330, 351, 440, 351, 451, 351], [110, 220, 131, 231, 330, 351, 440, 451, 351, 351], [110, 220, 131, 231, 330, 440, 351, 351, 351, 451], [110, 220, 131, 231, 330, 440, 351, 351, 451, 351], [110, 220, 131, 231, 330, 440, 351, 451, 351, 351], [110, 220, 131, 231, 330, 440, 451, 351, 351, 351], [110, 220, 231, 131, 330, 351, 351, 351, 440, 451], [110, 220, 231, 131, 330, 351, 351, 440, 351, 451], [110, 220, 231, 131, 330, 351, 351, 440, 451, 351], [110, 220, 231, 131, 330, 351, 440, 351, 351, 451], [110, 220, 231, 131, 330, 351, 440, 351, 451, 351], [110, 220, 231, 131, 330, 351, 440, 451, 351, 351], [110, 220, 231, 131, 330, 440, 351, 351, 351, 451], [110, 220, 231, 131, 330, 440, 351, 351, 451, 351], [110, 220, 231, 131, 330, 440, 351, 451, 351, 351], [110, 220, 231, 131, 330, 440, 451, 351, 351, 351]]
@[irreducible] def mc44_6 : List (List Nat) := [[110, 131, 220, 241, 330, 351, 351, 440, 451, 451], [110, 131, 220, 241, 330, 351, 440, 351, 451, 451], [110, 131, 220, 241, 330, 351, 440, 451, 351, 451], [110, 131, 220, 241, 330, 351, 440, 451, 451, 351], [110, 131, 220, 241, 330, 440, 351, 351, 451, 451], [110, 131, 220, 241, 330, 440, 351, 451, 351, 451], [110, 131, 220, 241, 330, 440, 351, 451, 451, 351], [110, 131, 220, 241, 330, 440, 451, 351, 351, 451], [110, 131, 220, 241, 330, 440, 451, 351, 451, 351], [110, 131, 220, 241, 330, 440, 451, 451, 351, 351], [110, 131, 220, 330, 241, 351, 351, 440, 451, 451], [110, 131, 220, 330, 241, 351, 440, 351, 451, 451], [110, 131, 220, 330, 241, 351, 440, 451, 351, 451], [110, 131, 220, 330, 241, 351, 440, 451, 451, 351], [110, 131, 220, 330, 241, 440, 351, 351, 451, 451], [110, 131, 220, 330, 241, 440, 351, 451, 351, 451], [110, 131, 220, 330, 241, 440, 351, 451, 451, 351], [110, 131, 220, 330, 241, 440, 451, 351, 351, 451], [110, 131, 220, 330, 241, 440, 451, 351, 451, 351], [110, 131, 220, 330, 241, 440, 451, 451, 351, 351], [110, 131, 220, 330, 351, 241, 351, 440, 451, 451], [110, 131, 220, 330, 351, 241, 440, 351, 451, 451], [110, 131, 220, 330, 351, 241, 440, 451, 351, 451], [110, 131, 220, 330, 351, 241, 440, 451, 451, 351], [110, 131, 220, 330, 351, 351, 241, 440, 451, 451], [110, 220, 131, 241, 330, 351, 351, 440, 451, 451], [110, 220, 131, 241, 330, 351, 440, 351, 451, 451], [110, 220, 131, 241, 330, 351, 440, 451, 351, 451], [110, 220, 131, 241, 330, 351, 440, 451, 451, 351], [110, 220, 131, 241, 330, 440, 351, 351, 451, 451], [110, 220, 131, 241, 330, 440, 351, 451, 351, 451], [110, 220, 131, 241, 330, 440, 351, 451, 451, 351], [110, 220, 131, 241, 330, 440, 451, 351, 351, 451], [110, 220, 131, 241, 330, 440, 451, 351, 451, 351], [110, 220, 131, 241, 330, 440, 451, 451, 351, 351], [110, 220, 131, 330, 241, 351, 351, 440, 451, 451], [110, 220, 131, 330, 241, 351, 440, 351, 451, 451], [110, 220, 131, 330, 241, 351, 440, 451, 351, 451], [110, 220, 131, 330, 241, 351, 440, 451, 451, 351], [110, 220, 131, 330, 241, 440, 351, 351, 451, 451], [110, 220, 131, 330, 241, 440, 351, 451, 351, 451], [110, 220, 131, 330, 241, 440, 351, 451, 451, 351], [110, 220, 131, 330, 241, 440, 451, 351, 351, 451], [110, 220, 131, 330, 241, 440, 451, 351, 451, 351], [110, 220, 131, 330, 241, 440, 451, 451, 351, 351], [110, 220, 131, 330, 351, 241, 351, 440, 451, 451], [110, 220, 131, 330, 351, 241, 440, 351, 451, 451], [110, 220, 131, 330, 351, 241, 440, 451, 351, 451], [110, 220, 131, 330, 351, 241, 440, 451, 451, 351], [110, 220, 131, 330, 351, 351, 241, 440, 451, 451], [110, 220, 241, 131, 330, 351, 351, 440, 451, 451], [110, 220, 241, 131, 330, 351, 440, 351, 451, 451], [110, 220, 241, 131, 330, 351, 440, 451, 351, 451], [110, 220, 241, 131, 330, 351, 440, 451, 451, 351], [110, 220, 241, 131, 330, 440, 351, 351, 451, 451], [110, 220, 241, 131, 330, 440, 351, 451, 351, 451], [110, 220, 241, 131, 330, 440, 351, 451, 451, 351], [110, 220, 241, 131, 330, 440, 451, 351, 351, 451], [110, 220, 241, 131, 330, 440, 451, 351, 451, 351], [110, 220, 241, 131, 330, 440, 451, 451, 351, 351]]
@[irreducible] def mc44_7 : List (List Nat) := [[110, 131, 220, 251, 330, 341, 351, 440, 451, 451], [110, 131, 220, 251, 330, 341, 440, 351, 451, 451], [110, 131, 220, 251, 330, 341, 440, 451, 351, 451], [110, 131, 220, 251, 330, 341, 440, 451, 451, 351], [110, 131, 220, 251, 330, 351, 341, 440, 451, 451], [110, 131, 220, 330, 251, 341, 351, 440, 451, 451], [110, 131, 220, 330, 251, 341, 440, 351, 451, 451], [110, 131, 220, 330, 251, 341, 440, 451, 351, 451], [110, 131, 220, 330, 251, 341, 440, 451, 451, 351], [110, 131, 220, 330, 251, 351, 341, 440, 451, 451], [110, 131, 220, 330, 341, 251, 351, 440, 451, 451], [110, 131, 220, 330, 341, 251, 440, 351, 451, 451], [110, 131, 220, 330, 341, 251, 440, 451, 351, 451], [110, 131, 220, 330, 341, 251, 440, 451, 451, 351], [110, 131, 220, 330, 341, 351, 251, 440, 451, 451], [110, 131, 220, 330, 341, 351, 440, 251, 451, 451], [110, 131, 220, 330, 341, 351, 440, 451, 251, 451], [110, 131, 220, 330, 341, 351, 440, 451, 451, 251], [110, 131, 220, 330, 341, 440, 251, 351, 451, 451], [110, 131, 220, 330, 341, 440, 251, 451, 351, 451], [110, 131, 220, 330, 341, 440, 251, 451, 451, 351], [110, 131, 220, 330, 341, 440, 351, 251, 451, 451], [110, 131, 220, 330, 341, 440, 351, 451, 251, 451], [110, 131, 220, 330, 341, 440, 351, 451, 451, 251], [110, 131, 220, 330, 341, 440, 451, 251, 351, 451], [110, 131, 220, 330, 341, 440, 451, 251, 451, 351], [110, 131, 220, 330, 341, 440, 451, 351, 251, 451], [110, 131, 220, 330, 341, 440, 451, 351, 451, 251], [110, 131, 220, 330, 341, 440, 451, 451, 251, 351], [110, 131, 220, 330, 341, 440, 451, 451, 351, 251], [110, 131, 220, 330, 351, 251, 341, 440, 451, 451], [110, 131, 220, 330, 351, 341, 251, 440, 451, 451], [110, 131, 220, 330, 351, 341, 440, 251, 451, 451], [110, 131, 220, 330, 351, 341, 440, 451, 251, 451], [110, 131, 220, 330, 351, 341, 440, 451, 451, 251], [110, 220, 131, 251, 330, 341, 351, 440, 451, 451], [110, 220, 131, 251, 330, 341, 440, 351, 451, 451], [110, 220, 131, 251, 330, 341, 440, 451, 351, 451], [110, 220, 131, 251, 330, 341, 440, 451, 451, 351], [110, 220, 131, 251, 330, 351, 341, 440, 451, 451], [110, 220, 131, 330, 251, 341, 351, 440, 451, 451], [110, 220, 131, 330, 251, 341, 440, 351, 451, 451], [110, 220, 131, 330, 251, 341, 440, 451, 351, 451], [110, 220, 131, 330, 251, 341, 440, 451, 451, 351], [110, 220, 131, 330, 251, 351, 341, 440, 451, 451], [110, 220, 131, 330, 341, 251, 351, 440, 451, 451], [110, 220, 131, 330, 341, 251, 440, 351, 451, 451], [110, 220, 131, 330, 341, 251, 440, 451, 351, 451], [110, 220, 131, 330, 341, 251, 440, 451, 451, 351], [110, 220, 131, 330, 341, 351, 251, 440, 451, 451], [110, 220, 131, 330, 341, 351, 440, 251, 451, 451], [110, 220, 131, 330, 341, 351, 440, 451, 251, 451], [110, 220, 131, 330, 341, 351, 440, 451, 451, 251], [110, 220, 131, 330, 341, 440, 251, 351, 451, 451], [110, 220, 131, 330, 341, 440, 251, 451, 351, 451], [110, 220, 131, 330, 341, 440, 251, 451, 451, 351], [110, 220, 131, 330, 341, 440, 351, 251, 451, 451], [110, 220, 131, 330, 341, 440, 351, 451, 251, 451], [110, 220, 131, 330, 341, 440, 351, 451, 451, 251], [110, 220, 131, 330, 341, 440, 451, 251, 351, 451], [110, 220, 131, 330, 341, 440, 451, 251, 451, 351], [110, 220, 131, 330, 341, 440, 451, 351, 251, 451], [110, 220, 131, 330, 341, 440, 451, 351, 451, 251], [110, 220, 131, 330, 341, 440, 451, 451, 251, 351], [110, 220, 131, 330, 341, 440, 451, 451, 351, 251], [110, 220, 131, 330, 351, 251, 341, 440, 451, 451], [110, 220, 131, 330, 351, 341, 251, 440, 451, 451], [110, 220, 131, 330, 351, 341, 440, 251, 451, 451], [110, 220, 131, 330, 351, 341, 440, 451, 251, 451], [110, 220, 131, 330, 351, 341, 440, 451, 451, 251], [110, 220, 251, 131, 330, 341, 351, 440, 451, 451], [110, 220, 251, 131, 330, 341, 440, 351, 451, 451], [110, 220, 251, 131, 330, 341, 440, 451, 351, 451], [110, 220, 251, 131, 330, 341, 440, 451, 451, 351], [110, 220, 251, 131, 330, 351, 341, 440, 451, 451]]
@[irreducible] def mc44_8 : List (List Nat) := [[110, 131, 220, 251, 330, 342, 440, 451, 451, 451], [110, 131, 220, 330, 251, 342, 440, 451, 451, 451], [110, 131, 220, 330, 342, 251, 440, 451, 451, 451], [110, 131, 220, 330, 342, 440, 251, 451, 451, 451], [110, 131, 220, 330, 342, 440, 451, 251, 451, 451], [110, 131, 220, 330, 342, 440, 451, 451, 251, 451], [110, 131, 220, 330, 342, 440, 451, 451, 451, 251], [110, 220, 131, 251, 330, 342, 440, 451, 451, 451], [110, 220, 131, 330, 251, 342, 440, 451, 451, 451], [110, 220, 131, 330, 342, 251, 440, 451, 451, 451], [110, 220, 131, 330, 342, 440, 251, 451, 451, 451], [110, 220, 131, 330, 342, 440, 451, 251, 451, 451], [110, 220, 131, 330, 342, 440, 451, 451, 251, 451], [110, 220, 131, 330, 342, 440, 451, 451, 451, 251], [110, 220, 251, 131, 330, 342, 440, 451, 451, 451]]
@[irreducible] def mc44_9 : List (List Nat) := [[110, 141, 220, 231, 330, 351, 351, 440, 451, 451], [110, 141, 220, 231, 330, 351, 440, 351, 451, 451], [110, 141, 220, 231, 330, 351, 440, 451, 351, 451], [110, 141, 220, 231, 330, 351, 440, 451, 451, 351], [110, 141, 220, 231, 330, 440, 351, 351, 451, 451], [110, 141, 220, 231, 330, 440, 351, 451, 351, 451], [110, 141, 220, 231, 330, 440, 351, 451, 451, 351], [110, 141, 220, 231, 330, 440, 451, 351, 351, 451], [110, 141, 220, 231, 330, 440, 451, 351, 451, 351], [110, 141, 220, 231, 330, 440, 451, 451, 351, 351], [110, 220, 141, 231, 330, 351, 351, 440, 451, 451], [110, 220, 141, 231, 330, 351, 440, 351, 451, 451], [110, 220, 141, 231, 330, 351, 440, 451, 351, 451], [110, 220, 141, 231, 330, 351, 440, 451, 451, 351], [110, 220, 141, 231, 330, 440, 351, 351, 451, 451], [110, 220, 141, 231, 330, 440, 351, 451, 351, 451], [110, 220, 141, 231, 330, 440, 351, 451, 451, 351], [110, 220, 141, 231, 330, 440, 451, 351, 351, 451], [110, 220, 141, 231, 330, 440, 451, 351, 451, 351], [110, 220, 141, 231, 330, 440, 451, 451, 351, 351], [110, 220, 231, 141, 330, 351, 351, 440, 451, 451], [110, 220, 231, 141, 330, 351, 440, 351, 451, 451], [110, 220, 231, 141, 330, 351, 440, 451, 351, 451], [110, 220, 231, 141, 330, 351, 440, 451, 451, 351], [110, 220, 231, 141, 330, 440, 351, 351, 451, 451], [110, 220, 231, 141, 330, 440, 351, 451, 351, 451], [110, 220, 231, 141, 330, 440, 351, 451, 451, 351], [110, 220, 231, 141, 330, 440, 451, 351, 351, 451], [110, 220, 231, 141, 330, 440, 451, 351, 451, 351], [110, 220, 231, 141, 330, 440, 451, 451, 351, 351], [110, 220, 231, 330, 141, 351, 351, 440, 451, 451], [110, 220, 231, 330, 141, 351, 440, 351, 451, 451], [110, 220, 231, 330, 141, 351, 440, 451, 351, 451], [110, 220, 231, 330, 141, 351, 440, 451, 451, 351], [110, 220, 231, 330, 141, 440, 351, 351, 451, 451], [110, 220, 231, 330, 141, 440, 351, 451, 351, 451], [110, 220, 231, 330, 141, 440, 351, 451, 451, 351], [110, 220, 231, 330, 141, 440, 451, 351, 351, 451], [110, 220, 231, 330, 141, 440, 451, 351, 451, 351], [110, 220, 231, 330, 141, 440, 451, 451, 351, 351], [110, 220, 231, 330, 351, 141, 351, 440, 451, 451], [110, 220, 231, 330, 351, 141, 440, 351, 451, 451], [110, 220, 231, 330, 351, 141, 440, 451, 351, 451], [110, 220, 231, 330, 351, 141, 440, 451, 451, 351], [110, 220, 231, 330, 351, 351, 141, 440, 451, 451]]
@[irreducible] def mc44_10 : List (List Nat) := [[110, 141, 220, 241, 330, 351, 440, 451, 451, 451], [110, 141, 220, 241, 330, 440, 351, 451, 451, 451], [110, 141, 220, 241, 330, 440, 451, 351, 451, 451], [110, 141, 220, 241, 330, 440, 451, 451, 351, 451], [110, 141, 220, 241, 330, 440, 451, 451, 451, 351], [110, 141, 220, 330, 241, 351, 440, 451, 451, 451], [110, 141, 220, 330, 241, 440, 351, 451, 451, 451], [110, 141, 220, 330, 241, 440, 451, 351, 451, 451], [110, 141, 220, 330, 241, 440, 451, 451, 351, 451], [110, 141, 220, 330, 241, 440, 451, 451, 451, 351], [110, 141, 220, 330, 351, 241, 440, 451, 451, 451], [110, 220, 141, 241, 330, 351, 440, 451, 451, 451], [110, 220, 141, 241, 330, 440, 351, 451, 451, 451], [110, 220, 141, 241, 330, 440, 451, 351, 451, 451], [110, 220, 141, 241, 330, 440, 451, 451, 351, 451], [110, 220, 141, 241, 330, 440, 451, 451, 451, 351], [110, 220, 141, 330, 241, 351, 440, 451, 451, 451], [110, 220, 141, 330, 241, 440, 351, 451, 451, 451], [110, 220, 141, 330, 241, 440, 451, 351, 451, 451], [110, 220, 141, 330, 241, 440, 451, 451, 351, 451], [110, 220, 141, 330, 241, 440, 451, 451, 451, 351], [110, 220, 141, 330, 351, 241, 440, 451, 451, 451], [110, 220, 241, 141, 330, 351, 440, 451, 451, 451], [110, 220, 241, 141, 330, 440, 351, 451, 451, 451], [110, 220, 241, 141, 330, 440, 451, 351, 451, 451], [110, 220, 241, 141, 330, 440, 451, 451, 351, 451], [110, 220, 241, 141, 330, 440, 451, 451, 451, 351], [110, 220, 241, 330, 141, 351, 440, 451, 451, 451], [110, 220, 241, 330, 141, 440, 351, 451, 451, 451], [110, 220, 241, 330, 141, 440, 451, 351, 451, 451], [110, 220, 241, 330, 141, 440, 451, 451, 351, 451], [110, 220, 241, 330, 141, 440, 451, 451, 451, 351], [110, 220, 241, 330, 351, 141, 440, 451, 451, 451], [110, 220, 330, 141, 241, 351, 440, 451, 451, 451], [110, 220, 330, 141, 241, 440, 351, 451, 451, 451], [110, 220, 330, 141, 241, 440, 451, 351, 451, 451], [110, 220, 330, 141, 241, 440, 451, 451, 351, 451], [110, 220, 330, 141, 241, 440, 451, 451, 451, 351], [110, 220, 330, 141, 351, 241, 440, 451, 451, 451], [110, 220, 330, 241, 141, 351, 440, 451, 451, 451], [110, 220, 330, 241, 141, 440, 351, 451, 451, 451], [110, 220, 330, 241, 141, 440, 451, 351, 451, 451], [110, 220, 330, 241, 141, 440, 451, 451, 351, 451], [110, 220, 330, 241, 141, 440, 451, 451, 451, 351], [110, 220, 330, 241, 351, 141, 440, 451, 451, 451], [110, 220, 330, 351, 141, 241, 440, 451, 451, 451], [110, 220, 330, 351, 241, 141, 440, 451, 451, 451]]
@[irreducible] def mc44_11 : List (List Nat) := [[110, 141, 220, 251, 330, 341, 440, 451, 451, 451], [110, 141, 220, 330, 251, 341, 440, 451, 451, 451], [110, 141, 220, 330, 341, 251, 440, 451, 451, 451], [110, 141, 220, 330, 341, 440, 251, 451, 451, 451], [110, 141, 220, 330, 341, 440, 451, 251, 451, 451], [110, 141, 220, 330, 341, 440, 451, 451, 251, 451], [110, 141, 220, 330, 341, 440, 451, 451, 451, 251], [110, 220, 141, 251, 330, 341, 440, 451, 451, 451], [110, 220, 141, 330, 251, 341, 440, 451, 451, 451], [110, 220, 141, 330, 341, 251, 440, 451, 451, 451], [110, 220, 141, 330, 341, 440, 251, 451, 451, 451], [110, 220, 141, 330, 341, 440, 451, 251, 451, 451], [110, 220, 141, 330, 341, 440, 451, 451, 251, 451], [110, 220, 141, 330, 341, 440, 451, 451, 451, 251], [110, 220, 251, 141, 330, 341, 440, 451, 451, 451], [110, 220, 251, 330, 141, 341, 440, 451, 451, 451], [110, 220, 251, 330, 341, 141, 440, 451, 451, 451], [110, 220, 330, 141, 251, 341, 440, 451, 451, 451], [110, 220, 330, 141, 341, 251, 440, 451, 451, 451], [110, 220, 330, 141, 341, 440, 251, 451, 451, 451], [110, 220, 330, 141, 341, 440, 451, 251, 451, 451], [110, 220, 330, 141, 341, 440, 451, 451, 251, 451], [110, 220, 330, 141, 341, 440, 451, 451, 451, 251], [110, 220, 330, 251, 141, 341, 440, 451, 451, 451], [110, 220, 330, 251, 341, 141, 440, 451, 451, 451], [110, 220, 330, 341, 141, 251, 440, 451, 451, 451], [110, 220, 330, 341, 141, 440, 251, 451, 451, 451], [110, 220, 330, 341, 141, 440, 451, 251, 451, 451], [110, 220, 330, 341, 141, 440, 451, 451, 251, 451], [110, 220, 330, 341, 141, 440, 451, 451, 451, 251], [110, 220, 330, 341, 251, 141, 440, 451, 451, 451]]
@[irreducible] def mc44_12 : List (List Nat) := [[110, 151, 220, 231, 330, 341, 351, 440, 451, 451], [110, 151, 220, 231, 330, 341, 440, 351, 451, 451], [110, 151, 220, 231, 330, 341, 440, 451, 351, 451], [110, 151, 220, 231, 330, 341, 440, 451, 451, 351], [110, 151, 220, 231, 330, 351, 341, 440, 451, 451], [110, 220, 151, 231, 330, 341, 351, 440, 451, 451], [110, 220, 151, 231, 330, 341, 440, 351, 451, 451], [110, 220, 151, 231, 330, 341, 440, 451, 351, 451], [110, 220, 151, 231, 330, 341, 440, 451, 451, 351], [110, 220, 151, 231, 330, 351, 341, 440, 451, 451], [110, 220, 231, 151, 330, 341, 351, 440, 451, 451], [110, 220, 231, 151, 330, 341, 440, 351, 451, 451], [110, 220, 231, 151, 330, 341, 440, 451, 351, 451], [110, 220, 231, 151, 330, 341, 440, 451, 451, 351], [110, 220, 231, 151, 330, 351, 341, 440, 451, 451], [110, 220, 231, 330, 151, 341, 351, 440, 451, 451], [110, 220, 231, 330, 151, 341, 440, 351, 451, 451], [110, 220, 231, 330, 151, 341, 440, 451, 351, 451], [110, 220, 231, 330, 151, 341, 440, 451, 451, 351], [110, 220, 231, 330, 151, 351, 341, 440, 451, 451], [110, 220, 231, 330, 341, 151, 351, 440, 451, 451], [110, 220, 231, 330, 341, 151, 440, 351, 451, 451], [110, 220, 231, 330, 341, 151, 440, 451, 351, 451], [110, 220, 231, 330, 341, 151, 440, 451, 451, 351], [110, 220, 231, 330, 341, 351, 151, 440, 451, 451], [110, 220, 231, 330, 341, 351, 440, 151, 451, 451], [110, 220, 231, 330, 341, 351, 440, 451, 151, 451], [110, 220, 231, 330, 341, 351, 440, 451, 451, 151], [110, 220, 231, 330, 341, 440, 151, 351, 451, 451], [110, 220, 231, 330, 341, 440, 151, 451, 351, 451], [110, 220, 231, 330, 341, 440, 151, 451, 451, 351], [110, 220, 231, 330, 341, 440, 351, 151, 451, 451], [110, 220, 231, 330, 341, 440, 351, 451, 151, 451], [110, 220, 231, 330, 341, 440, 351, 451, 451, 151], [110, 220, 231, 330, 341, 440, 451, 151, 351, 451], [110, 220, 231, 330, 341, 440, 451, 151, 451, 351], [110, 220, 231, 330, 341, 440, 451, 351, 151, 451], [110, 220, 231, 330, 341, 440, 451, 351, 451, 151], [110, 220, 231, 330, 341, 440, 451, 451, 151, 351], [110, 220, 231, 330, 341, 440, 451, 451, 351, 151], [110, 220, 231, 330, 351, 151, 341, 440, 451, 451], [110, 220, 231, 330, 351, 341, 151, 440, 451, 451], [110, 220, 231, 330, 351, 341, 440, 151, 451, 451], [110, 220, 231, 330, 351, 341, 440, 451, 151, 451], [110, 220, 231, 330, 351, 341, 440, 451, 451, 151]]
@[irreducible] def mc44_13 : List (List Nat) := [[110, 151, 220, 231, 330, 342, 440, 451, 451, 451], [110, 220, 151, 231, 330, 342, 440, 451, 451, 451], [110, 220, 231, 151, 330, 342, 440, 451, 451, 451], [110, 220, 231, 330, 151, 342, 440, 451, 451, 451], [110, 220, 231, 330, 342, 151, 440, 451, 451, 451], [110, 220, 231, 330, 342, 440, 151, 451, 451, 451], [110, 220, 231, 330, 342, 440, 451, 151, 451, 451], [110, 220, 231, 330, 342, 440, 451, 451, 151, 451], [110, 220, 231, 330, 342, 440, 451, 451, 451, 151]]
@[irreducible] def mc44_14 : List (List Nat) := [[110, 151, 220, 241, 330, 341, 440, 451, 451, 451], [110, 151, 220, 330, 241, 341, 440, 451, 451, 451], [110, 151, 220, 330, 341, 241, 440, 451, 451, 451], [110, 220, 151, 241, 330, 341, 440, 451, 451, 451], [110, 220, 151, 330, 241, 341, 440, 451, 451, 451], [110, 220, 151, 330, 341, 241, 440, 451, 451, 451], [110, 220, 241, 151, 330, 341, 440, 451, 451, 451], [110, 220, 241, 330, 151, 341, 440, 451, 451, 451], [110, 220, 241, 330, 341, 151, 440, 451, 451, 451], [110, 220, 241, 330, 341, 440, 151, 451, 451, 451], [110, 220, 241, 330, 341, 440, 451, 151, 451, 451], [110, 220, 241, 330, 341, 440, 451, 451, 151, 451], [110, 220, 241, 330, 341, 440, 451, 451, 451, 151], [110, 220, 330, 151, 241, 341, 440, 451, 451, 451], [110, 220, 330, 151, 341, 241, 440, 451, 451, 451], [110, 220, 330, 241, 151, 341, 440, 451, 451, 451], [110, 220, 330, 241, 341, 151, 440, 451, 451, 451], [110, 220, 330, 241, 341, 440, 151, 451, 451, 451], [110, 220, 330, 241, 341, 440, 451, 151, 451, 451], [110, 220, 330, 241, 341, 440, 451, 451, 151, 451], [110, 220, 330, 241, 341, 440, 451, 451, 451, 151], [110, 220, 330, 341, 151, 241, 440, 451, 451, 451], [110, 220, 330, 341, 241, 151, 440, 451, 451, 451], [110, 220, 330, 341, 241, 440, 151, 451, 451, 451], [110, 220, 330, 341, 241, 440, 451, 151, 451, 451], [110, 220, 330, 341, 241, 440, 451, 451, 151, 451], [110, 220, 330, 341, 241, 440, 451, 451, 451, 151]]
@[irreducible] def mc45_0 : List (List Nat) := [[110, 121, 220, 251, 251, 330, 351, 440, 451], [110, 121, 220, 251, 251, 330, 440, 351, 451], [110, 121, 220, 251, 251, 330, 440, 451, 351], [110, 121, 220, 251, 330, 251, 351, 440, 451], [110, 121, 220, 251, 330, 251, 440, 351, 451], [110, 121, 220, 251, 330, 251, 440, 451, 351], [110, 121, 220, 251, 330, 351, 251, 440, 451], [110, 121, 220, 251, 330, 351, 440, 251, 451], [110, 121, 220, 251, 330, 351, 440, 451, 251], [110, 121, 220, 251, 330, 440, 251, 351, 451], [110, 121, 220, 251, 330, 440, 251, 451, 351], [110, 121, 220, 251, 330, 440, 351, 251, 451], [110, 121, 220, 251, 330, 440, 351, 451, 251], [110, 121, 220, 251, 330, 440, 451, 251, 351], [110, 121, 220, 251, 330, 440, 451, 351, 251], [110, 121, 220, 330, 251, 251, 351, 440, 451], [110, 121, 220, 330, 251, 251, 440, 351, 451], [110, 121, 220, 330, 251, 251, 440, 451, 351], [110, 121, 220, 330, 251, 351, 251, 440, 451], [110, 121, 220, 330, 251, 351, 440, 251, 451], [110, 121, 220, 330, 251, 351, 440, 451, 251], [110, 121, 220, 330, 251, 440, 251, 351, 451], [110, 121, 220, 330, 251, 440, 251, 451, 351], [110, 121, 220, 330, 251, 440, 351, 251, 451], [110, 121, 220, 330, 251, 440, 351, 451, 251], [110, 121, 220, 330, 251, 440, 451, 251, 351], [110, 121, 220, 330, 251, 440, 451, 351, 251], [110, 121, 220, 330, 351, 251, 251, 440, 451], [110, 121, 220, 330, 351, 251, 440, 251, 451], [110, 121, 220, 330, 351, 251, 440, 451, 251], [110, 121, 220, 330, 351, 440, 251, 251, 451], [110, 121, 220, 330, 351, 440, 251, 451, 251], [110, 121, 220, 330, 351, 440, 451, 251, 251], [110, 121, 220, 330, 440, 251, 251, 351, 451], [110, 121, 220, 330, 440, 251, 251, 451, 351], [110, 121, 220, 330, 440, 251, 351, 251, 451], [110, 121, 220, 330, 440, 251, 351, 451, 251], [110, 121, 220, 330, 440, 251, 451, 251, 351], [110, 121, 220, 330, 440, 251, 451, 351, 251], [110, 121, 220, 330, 440, 351, 251, 251, 451], [110, 121, 220, 330, 440, 351, 251, 451, 251], [110, 121, 220, 330, 440, 351, 451, 251, 251], [110, 121, 220, 330, 440, 451, 251, 251, 351], [110, 121, 220, 330, 440, 451, 251, 351, 251], [110, 121, 220, 330, 440, 451, 351, 251, 251]]
@[irreducible] def mc45_1 : List (List Nat) := [[110, 131, 220, 251, 330, 351, 351, 440, 451], [110, 131, 220, 251, 330, 351, 440, 351, 451], [110, 131, 220, 251, 330, 351, 440, 451, 351], [110, 131, 220, 251, 330, 440, 351, 351, 451], [110, 131, 220, 251, 330, 440, 351, 451, 351], [110, 131, 220, 251, 330, 440, 451, 351, 351], [110, 131, 220, 330, 251, 351, 351, 440, 451], [110, 131, 220, 330, 251, 351, 440, 351, 451], [110, 131, 220, 330, 251, 351, 440, 451, 351], [110, 131, 220, 330, 251, 440, 351, 351, 451], [110, 131, 220, 330, 251, 440, 351, 451, 351], [110, 131, 220, 330, 251, 440, 451, 351, 351], [110, 131, 220, 330, 351, 251, 351, 440, 451], [110, 131, 220, 330, 351, 251, 440, 351, 451], [110, 131, 220, 330, 351, 251, 440, 451, 351], [110, 131, 220, 330, 351, 351, 251, 440, 451], [110, 131, 220, 330, 351, 351, 440, 251, 451], [110, 131, 220, 330, 351, 351, 440, 451, 251], [110, 131, 220, 330, 351, 440, 251, 351, 451], [110, 131, 220, 330, 351, 440, 251, 451, 351], [110, 131, 220, 330, 351, 440, 351, 251, 451], [110, 131, 220, 330, 351, 440, 351, 451, 251], [110, 131, 220, 330, 351, 440, 451, 251, 351], [110, 131, 220, 330, 351, 440, 451, 351, 251], [110, 131, 220, 330, 440, 251, 351, 351, 451], [110, 131, 220, 330, 440, 251, 351, 451, 351], [110, 131, 220, 330, 440, 251, 451, 351, 351], [110, 131, 220, 330, 440, 351, 251, 351, 451], [110, 131, 220, 330, 440, 351, 251, 451, 351], [110, 131, 220, 330, 440, 351, 351, 251, 451], [110, 131, 220, 330, 440, 351, 351, 451, 251], [110, 131, 220, 330, 440, 351, 451, 251, 351], [110, 131, 220, 330, 440, 351, 451, 351, 251], [110, 131, 220, 330, 440, 451, 251, 351, 351], [110, 131, 220, 330, 440, 451, 351, 251, 351], [110, 131, 220, 330, 440, 451, 351, 351, 251], [110, 220, 131, 251, 330, 351, 351, 440, 451], [110, 220, 131, 251, 330, 351, 440, 351, 451], [110, 220, 131, 251, 330, 351, 440, 451, 351], [110, 220, 131, 251, 330, 440, 351, 351, 451], [110, 220, 131, 251, 330, 440, 351, 451, 351], [110, 220, 131, 251, 330, 440, 451, 351, 351], [110, 220, 131, 330, 251, 351, 351, 440, 451], [110, 220, 131, 330, 251, 351, 440, 351, 451], [110, 220, 131, 330, 251, 351, 440, 451, 351], [110, 220, 131, 330, 251, 440, 351, 351, 451], [110, 220, 131, 330, 251, 440, 351, 451, 351], [110, 220, 131, 330, 251, 440, 451, 351, 351], [110, 220, 131, 330, 351, 251, 351, 440, 451], [110, 220, 131, 330, 351, 251, 440, 351, 451], [110, 220, 131, 330, 351, 251, 440, 451, 351], [110, 220, 131, 330, 351, 351, 251, 440, 451], [110, 220, 131, 330, 351, 351, 440, 251, 451], [110, 220, 131, 330, 351, 351, 440, 451, 251], [110, 220, 131, 330, 351, 440, 251, 351, 451], [110, 220, 131, 330, 351, 440, 251, 451, 351], [110, 220, 131, 330, 351, 440, 351, 251, 451], [110, 220, 131, 330, 351, 440, 351, 451, 251], [110, 220, 131, 330, 351, 440, 451, 251, 351], [110, 220, 131, 330, 351, 440, 451, 351, 251], [110, 220, 131, 330, 440, 251, 351, 351, 451], [110, 220, 131, 330, 440, 251, 351, 451, 351], [110, 220, 131, 330, 440, 251, 451, 351, 351], [110, 220, 131, 330, 440, 351, 251, 351, 451], [110, 220, 131, 330, 440, 351, 251, 451, 351], [110, 220, 131, 330, 440, 351, 351, 251, 451], [110, 220, 131, 330, 440, 351, 351, 451, 251], [110, 220, 131, 330, 440, 351, 451, 251, 351], [110, 220, 131, 330, 440, 351, 451, 351, 251], [110, 220, 131, 330, 440, 451, 251, 351, 351], [110, 220, 131, 330, 440, 451, 351, 251, 351], [110, 220, 131, 330, 440, 451, 351, 351, 251], [110, 220, 251, 131, 330, 351, 351, 440, 451], [110, 220, 251, 131, 330, 351, 440, 351, 451], [110, 220, 251, 131, 330, 351, 440, 451, 351], [110, 220, 251, 131, 330, 440, 351, 351, 451], [110, 220, 251, 131, 330, 440, 351, 451, 351], [110, 220, 251, 131, 330, 440, 451, 351, 351]]
@[irreducible] def mc45_2 : List (List Nat) := [[110, 141, 220, 251, 330, 351, 440, 451, 451], [110, 141, 220, 251, 330, 440, 351, 451, 451], [110, 141, 220, 251, 330, 440, 451, 351, 451], [110, 141, 220, 251, 330, 440, 451, 451, 351], [110, 141, 220, 330, 251, 351, 440, 451, 451], [110, 141, 220, 330, 251, 440, 351, 451, 451], [110, 141, 220, 330, 251, 440, 451, 351, 451], [110, 141, 220, 330, 251, 440, 451, 451, 351], [110, 141, 220, 330, 351, 251, 440, 451, 451], [110, 141, 220, 330, 351, 440, 251, 451, 451], [110, 141, 220, 330, 351, 440, 451, 251, 451], [110, 141, 220, 330, 351, 440, 451, 451, 251], [110, 141, 220, 330, 440, 251, 351, 451, 451], [110, 141, 220, 330, 440, 251, 451, 351, 451], [110, 141, 220, 330, 440, 251, 451, 451, 351], [110, 141, 220, 330, 440, 351, 251, 451, 451], [110, 141, 220, 330, 440, 351, 451, 251, 451], [110, 141, 220, 330, 440, 351, 451, 451, 251], [110, 141, 220, 330, 440, 451, 251, 351, 451], [110, 141, 220, 330, 440, 451, 251, 451, 351], [110, 141, 220, 330, 440, 451, 351, 251, 451], [110, 141, 220, 330, 440, 451, 351, 451, 251], [110, 141, 220, 330, 440, 451, 451, 251, 351], [110, 141, 220, 330, 440, 451, 451, 351, 251], [110, 220, 141, 251, 330, 351, 440, 451, 451], [110, 220, 141, 251, 330, 440, 351, 451, 451], [110, 220, 141, 251, 330, 440, 451, 351, 451], [110, 220, 141, 251, 330, 440, 451, 451, 351], [110, 220, 141, 330, 251, 351, 440, 451, 451], [110, 220, 141, 330, 251, 440, 351, 451, 451], [110, 220, 141, 330, 251, 440, 451, 351, 451], [110, 220, 141, 330, 251, 440, 451, 451, 351], [110, 220, 141, 330, 351, 251, 440, 451, 451], [110, 220, 141, 330, 351, 440, 251, 451, 451], [110, 220, 141, 330, 351, 440, 451, 251, 451], [110, 220, 141, 330, 351, 440, 451, 451, 251], [110, 220, 141, 330, 440, 251, 351, 451, 451], [110, 220, 141, 330, 440, 251, 451, 351, 451], [110, 220, 141, 330, 440, 251, 451, 451, 351], [110, 220, 141, 330, 440, 351, 251, 451, 451], [110, 220, 141, 330, 440, 351, 451, 251, 451], [110, 220, 141, 330, 440, 351, 451, 451, 251], [110, 220, 141, 330, 440, 451, 251, 351, 451], [110, 220, 141, 330, 440, 451, 251, 451, 351], [110, 220, 141, 330, 440, 451, 351, 251, 451], [110, 220, 141, 330, 440, 451, 351, 451, 251], [110, 220, 141, 330, 440, 451, 451, 251, 351], [110, 220, 141, 330, 440, 451, 451, 351, 251], [110, 220, 251, 141, 330, 351, 440, 451, 451], [110, 220, 251, 141, 330, 440, 351, 451, 451], [110, 220, 251, 141, 330, 440, 451, 351, 451], [110, 220, 251, 141, 330, 440, 451, 451, 351], [110, 220, 251, 330, 141, 351, 440, 451, 451], [110, 220, 251, 330, 141, 440, 351, 451, 451], [110, 220, 251, 330, 141, 440, 451, 351, 451], [110, 220, 251, 330, 141, 440, 451, 451, 351], [110, 220, 251, 330, 351, 141, 440, 451, 451], [110, 220, 330, 141, 251, 351, 440, 451, 451], [110, 220, 330, 141, 251, 440, 351, 451, 451], [110, 220, 330, 141, 251, 440, 451, 351, 451], [110, 220, 330, 141, 251, 440, 451, 451, 351], [110, 220, 330, 141, 351, 251, 440, 451, 451], [110, 220, 330, 141, 351, 440, 251, 451, 451], [110, 220, 330, 141, 351, 440, 451, 251, 451], [110, 220, 330, 141, 351, 440, 451, 451, 251], [110, 220, 330, 141, 440, 251, 351, 451, 451], [110, 220, 330, 141, 440, 251, 451, 351, 451], [110, 220, 330, 141, 440, 251, 451, 451, 351], [110, 220, 330, 141, 440, 351, 251, 451, 451], [110, 220, 330, 141, 440, 351, 451, 251, 451], [110, 220, 330, 141, 440, 351, 451, 451, 251], [110, 220, 330, 141, 440, 451, 251, 351, 451], [110, 220, 330, 141, 440, 451, 251, 451, 351], [110, 220, 330, 141, 440, 451, 351, 251, 451], [110, 220, 330, 141, 440, 451, 351, 451, 251], [110, 220, 330, 141, 440, 451, 451, 251, 351], [110, 220, 330, 141, 440, 451, 451, 351, 251], [110, 220, 330, 251, 141, 351, 440, 451, 451], [110, 220, 330, 251, 141, 440, 351, 451, 451], [110, 220, 330, 251, 141, 440, 451, 351, 451], [110, 220, 330, 251, 141, 440, 451, 451, 351], [110, 220, 330, 251, 351, 141, 440, 451, 451], [110, 220, 330, 351, 141, 251, 440, 451, 451], [110, 220, 330, 351, 141, 440, 251, 451, 451], [110, 220, 330, 351, 141, 440, 451, 251, 451], [110, 220, 330, 351, 141, 440, 451, 451, 251], [110, 220, 330, 351, 251, 141, 440, 451, 451]]
@[irreducible] def mc45_3 : List (List Nat) := [[110, 151, 220, 231, 330, 351, 351, 440, 451], [110, 151, 220, 231, 330, 351, 440, 351, 451], [110, 151, 220, 231, 330, 351, 440, 451, 351], [110, 151, 220, 231, 330, 440, 351, 351, 451], [110, 151, 220, 231, 330, 440, 351, 451, 351], [110, 151, 220, 231, 330, 440, 451, 351, 351], [110, 220, 151, 231, 330, 351, 351, 440, 451], [110, 220, 151, 231, 330, 351, 440, 351, 451], [110, 220, 151, 231, 330, 351, 440, 451, 351], [110, 220, 151, 231, 330, 440, 351, 351, 451], [110, 220, 151, 231, 330, 440, 351, 451, 351], [110, 220, 151, 231, 330, 440, 451, 351, 351], [110, 220, 231, 151, 330, 351, 351, 440, 451], [110, 220, 231, 151, 330, 351, 440, 351, 451], [110, 220, 231, 151, 330, 351, 440, 451, 351], [110, 220, 231, 151, 330, 440, 351, 351, 451], [110, 220, 231, 151, 330, 440, 351, 451, 351], [110, 220, 231, 151, 330, 440, 451, 351, 351], [110, 220, 231, 330, 151, 351, 351, 440, 451], [110, 220, 231, 330, 151, 351, 440, 351, 451], [110, 220, 231, 330, 151, 351, 440, 451, 351], [110, 220, 231, 330, 151, 440, 351, 351, 451], [110, 220, 231, 330, 151, 440, 351, 451, 351], [110, 220, 231, 330, 151, 440, 451, 351, 351], [110, 220, 231, 330, 351, 151, 351, 440, 451], [110, 220, 231, 330, 351, 151, 440, 351, 451], [110, 220, 231, 330, 351, 151, 440, 451, 351], [110, 220, 231, 330, 351, 351, 151, 440, 451], [110, 220, 231, 330, 351, 351, 440, 151, 451], [110, 220, 231, 330, 351, 351, 440, 451, 151], [110, 220, 231, 330, 351, 440, 151, 351, 451], [110, 220, 231, 330, 351, 440, 151, 451, 351], [110, 220, 231, 330, 351, 440, 351, 151, 451], [110, 220, 231, 330, 351, 440, 351, 451, 151], [110, 220, 231, 330, 351, 440, 451, 151, 351], [110, 220, 231, 330, 351, 440, 451, 351, 151], [110, 220, 231, 330, 440, 151, 351, 351, 451], [110, 220, 231, 330, 440, 151, 351, 451, 351], [110, 220, 231, 330, 440, 151, 451, 351, 351], [110, 220, 231, 330, 440, 351, 151, 351, 451], [110, 220, 231, 330, 440, 351, 151, 451, 351], [110, 220, 231, 330, 440, 351, 351, 151, 451], [110, 220, 231, 330, 440, 351, 351, 451, 151], [110, 220, 231, 330, 440, 351, 451, 151, 351], [110, 220, 231, 330, 440, 351, 451, 351, 151], [110, 220, 231, 330, 440, 451, 151, 351, 351], [110, 220, 231, 330, 440, 451, 351, 151, 351], [110, 220, 231, 330, 440, 451, 351, 351, 151]]
@[irreducible] def mc45_4 : List (List Nat) := [[110, 151, 220, 241, 330, 351, 440, 451, 451], [110, 151, 220, 241, 330, 440, 351, 451, 451], [110, 151, 220, 241, 330, 440, 451, 351, 451], [110, 151, 220, 241, 330, 440, 451, 451, 351], [110, 151, 220, 330, 241, 351, 440, 451, 451], [110, 151, 220, 330, 241, 440, 351, 451, 451], [110, 151, 220, 330, 241, 440, 451, 351, 451], [110, 151, 220, 330, 241, 440, 451, 451, 351], [110, 151, 220, 330, 351, 241, 440, 451, 451], [110, 220, 151, 241, 330, 351, 440, 451, 451], [110, 220, 151, 241, 330, 440, 351, 451, 451], [110, 220, 151, 241, 330, 440, 451, 351, 451], [110, 220, 151, 241, 330, 440, 451, 451, 351], [110, 220, 151, 330, 241, 351, 440, 451, 451], [110, 220, 151, 330, 241, 440, 351, 451, 451], [110, 220, 151, 330, 241, 440, 451, 351, 451], [110, 220, 151, 330, 241, 440, 451, 451, 351], [110, 220, 151, 330, 351, 241, 440, 451, 451], [110, 220, 241, 151, 330, 351, 440, 451, 451], [110, 220, 241, 151, 330, 440, 351, 451, 451], [110, 220, 241, 151, 330, 440, 451, 351, 451], [110, 220, 241, 151, 330, 440, 451, 451, 351], [110, 220, 241, 330, 151, 351, 440, 451, 451], [110, 220, 241, 330, 151, 440, 351, 451, 451], [110, 220, 241, 330, 151, 440, 451, 351, 451], [110, 220, 241, 330, 151, 440, 451, 451, 351], [110, 220, 241, 330, 351, 151, 440, 451, 451], [110, 220, 241, 330, 351, 440, 151, 451, 451], [110, 220, 241, 330, 351, 440, 451, 151, 451], [110, 220, 241, 330, 351, 440, 451, 451, 151], [110, 220, 241, 330, 440, 151, 351, 451, 451], [110, 220, 241, 330, 440, 151, 451, 351, 451], [110, 220, 241, 330, 440, 151, 451, 451, 351], [110, 220, 241, 330, 440, 351, 151, 451, 451], [110, 220, 241, 330, 440, 351, 451, 151, 451], [110, 220, 241, 330, 440, 351, 451, 451, 151], [110, 220, 241, 330, 440, 451, 151, 351, 451], [110, 220, 241, 330, 440, 451, 151, 451, 351], [110, 220, 241, 330, 440, 451, 351, 151, 451], [110, 220, 241, 330, 440, 451, 351, 451, 151], [110, 220, 241, 330, 440, 451, 451, 151, 351], [110, 220, 241, 330, 440, 451, 451, 351, 151], [110, 220, 330, 151, 241, 351, 440, 451, 451], [110, 220, 330, 151, 241, 440, 351, 451, 451], [110, 220, 330, 151, 241, 440, 451, 351, 451], [110, 220, 330, 151, 241, 440, 451, 451, 351], [110, 220, 330, 151, 351, 241, 440, 451, 451], [110, 220, 330, 241, 151, 351, 440, 451, 451], [110, 220, 330, 241, 151, 440, 351, 451, 451], [110, 220, 330, 241, 151, 440, 451, 351, 451], [110, 220, 330, 241, 151, 440, 451, 451, 351], [110, 220, 330, 241, 351, 151, 440, 451, 451], [110, 220, 330, 241, 351, 440, 151, 451, 451], [110, 220, 330, 241, 351, 440, 451, 151, 451], [110, 220, 330, 241, 351, 440, 451, 451, 151], [110, 220, 330, 241, 440, 151, 351, 451, 451], [110, 220, 330, 241, 440, 151, 451, 351, 451], [110, 220, 330, 241, 440, 151, 451, 451, 351], [110, 220, 330, 241, 440, 351, 151, 451, 451], [110, 220, 330, 241, 440, 351, 451, 151, 451], [110, 220, 330, 241, 440, 351, 451, 451, 151], [110, 220, 330, 241, 440, 451, 151, 351, 451], [110, 220, 330, 241, 440, 451, 151, 451, 351], [110, 220, 330, 241, 440, 451, 351, 151, 451], [110, 220, 330, 241, 440, 451, 351, 451, 151], [110, 220, 330, 241, 440, 451, 451, 151, 351], [110, 220, 330, 241, 440, 451, 451, 351, 151], [110, 220, 330, 351, 151, 241, 440, 451, 451], [110, 220, 330, 351, 241, 151, 440, 451, 451], [110, 220, 330, 351, 241, 440, 151, 451, 451], [110, 220, 330, 351, 241, 440, 451, 151, 451], [110, 220, 330, 351, 241, 440, 451, 451, 151]]
@[irreducible] def mc45_5 : List (List Nat) := [[110, 151, 220, 251, 330, 341, 440, 451, 451], [110, 151, 220, 330, 251, 341, 440, 451, 451], [110, 151, 220, 330, 341, 251, 440, 451, 451], [110, 151, 220, 330, 341, 440, 251, 451, 451], [110, 151, 220, 330, 341, 440, 451, 251, 451], [110, 151, 220, 330, 341, 440, 451, 451, 251], [110, 220, 151, 251, 330, 341, 440, 451, 451], [110, 220, 151, 330, 251, 341, 440, 451, 451], [110, 220, 151, 330, 341, 251, 440, 451, 451], [110, 220, 151, 330, 341, 440, 251, 451, 451], [110, 220, 151, 330, 341, 440, 451, 251, 451], [110, 220, 151, 330, 341, 440, 451, 451, 251], [110, 220, 251, 151, 330, 341, 440, 451, 451], [110, 220, 251, 330, 151, 341, 440, 451, 451], [110, 220, 251, 330, 341, 151, 440, 451, 451], [110, 220, 251, 330, 341, 440, 151, 451, 451], [110, 220, 251, 330, 341, 440, 451, 151, 451], [110, 220, 251, 330, 341, 440, 451, 451, 151], [110, 220, 330, 151, 251, 341, 440, 451, 451], [110, 220, 330, 151, 341, 251, 440, 451, 451], [110, 220, 330, 151, 341, 440, 251, 451, 451], [110, 220, 330, 151, 341, 440, 451, 251, 451], [110, 220, 330, 151, 341, 440, 451, 451, 251], [110, 220, 330, 251, 151, 341, 440, 451, 451], [110, 220, 330, 251, 341, 151, 440, 451, 451], [110, 220, 330, 251, 341, 440, 151, 451, 451], [110, 220, 330, 251, 341, 440, 451, 151, 451], [110, 220, 330, 251, 341, 440, 451, 451, 151], [110, 220, 330, 341, 151, 251, 440, 451, 451], [110, 220, 330, 341, 151, 440, 251, 451, 451], [110, 220, 330, 341, 151, 440, 451, 251, 451], [110, 220, 330, 341, 151, 440, 451, 451, 251], [110, 220, 330, 341, 251, 151, 440, 451, 451], [110, 220, 330, 341, 251, 440, 151, 451, 451], [110, 220, 330, 341, 251, 440, 451, 151, 451], [110, 220, 330, 341, 251, 440, 451, 451, 151], [110, 220, 330, 341, 440, 151, 251, 451, 451], [110, 220, 330, 341, 440, 151, 451, 251, 451], [110, 220, 330, 341, 440, 151, 451, 451, 251], [110, 220, 330, 341, 440, 251, 151, 451, 451], [110, 220, 330, 341, 440, 251, 451, 151, 451], [110, 220, 330, 341, 440, 251, 451, 451, 151], [110, 220, 330, 341, 440, 451, 151, 251, 451], [110, 220, 330, 341, 440, 451, 151, 451, 251], [110, 220, 330, 341, 440, 451, 251, 151, 451], [110, 220, 330, 341, 440, 451, 251, 451, 151], [110, 220, 330, 341, 440, 451, 451, 151, 251], [110, 220, 330, 341, 440, 451, 451, 251, 151]]
@[irreducible] def mc46_0 : List (List Nat) := [[110, 151, 220, 251, 330, 351, 440, 451], [110, 151, 220, 251, 330, 440, 351, 451], [110, 151, 220, 251, 330, 440, 451, 351], [110, 151, 220, 330, 251, 351, 440, 451], [110, 151, 220, 330, 251, 440, 351, 451], [110, 151, 220, 330, 251, 440, 451, 351], [110, 151, 220, 330, 351, 251, 440, 451], [110, 151, 220, 330, 351, 440, 251, 451], [110, 151, 220, 330, 351, 440, 451, 251], [110, 151, 220, 330, 440, 251, 351, 451], [110, 151, 220, 330, 440, 251, 451, 351], [110, 151, 220, 330, 440, 351, 251, 451], [110, 151, 220, 330, 440, 351, 451, 251], [110, 151, 220, 330, 440, 451, 251, 351], [110, 151, 220, 330, 440, 451, 351, 251], [110, 220, 151, 251, 330, 351, 440, 451], [110, 220, 151, 251, 330, 440, 351, 451], [110, 220, 151, 251, 330, 440, 451, 351], [110, 220, 151, 330, 251, 351, 440, 451], [110, 220, 151, 330, 251, 440, 351, 451], [110, 220, 151, 330, 251, 440, 451, 351], [110, 220, 151, 330, 351, 251, 440, 451], [110, 220, 151, 330, 351, 440, 251, 451], [110, 220, 151, 330, 351, 440, 451, 251], [110, 220, 151, 330, 440, 251, 351, 451], [110, 220, 151, 330, 440, 251, 451, 351], [110, 220, 151, 330, 440, 351, 251, 451], [110, 220, 151, 330, 440, 351, 451, 251], [110, 220, 151, 330, 440, 451, 251, 351], [110, 220, 151, 330, 440, 451, 351, 251], [110, 220, 251, 151, 330, 351, 440, 451], [110, 220, 251, 151, 330, 440, 351, 451], [110, 220, 251, 151, 330, 440, 451, 351], [110, 220, 251, 330, 151, 351, 440, 451], [110, 220, 251, 330, 151, 440, 351, 451], [110, 220, 251, 330, 151, 440, 451, 351], [110, 220, 251, 330, 351, 151, 440, 451], [110, 220, 251, 330, 351, 440, 151, 451], [110, 220, 251, 330, 351, 440, 451, 151], [110, 220, 251, 330, 440, 151, 351, 451], [110, 220, 251, 330, 440, 151, 451, 351], [110, 220, 251, 330, 440, 351, 151, 451], [110, 220, 251, 330, 440, 351, 451, 151], [110, 220, 251, 330, 440, 451, 151, 351], [110, 220, 251, 330, 440, 451, 351, 151], [110, 220, 330, 151, 251, 351, 440, 451], [110, 220, 330, 151, 251, 440, 351, 451], [110, 220, 330, 151, 251, 440, 451, 351], [110, 220, 330, 151, 351, 251, 440, 451], [110, 220, 330, 151, 351, 440, 251, 451], [110, 220, 330, 151, 351, 440, 451, 251], [110, 220, 330, 151, 440, 251, 351, 451], [110, 220, 330, 151, 440, 251, 451, 351], [110, 220, 330, 151, 440, 351, 251, 451], [110, 220, 330, 151, 440, 351, 451, 251], [110, 220, 330, 151, 440, 451, 251, 351], [110, 220, 330, 151, 440, 451, 351, 251], [110, 220, 330, 251, 151, 351, 440, 451], [110, 220, 330, 251, 151, 440, 351, 451], [110, 220, 330, 251, 151, 440, 451, 351], [110, 220, 330, 251, 351, 151, 440, 451], [110, 220, 330, 251, 351, 440, 151, 451], [110, 220, 330, 251, 351, 440, 451, 151], [110, 220, 330, 251, 440, 151, 351, 451], [110, 220, 330, 251, 440, 151, 451, 351], [110, 220, 330, 251, 440, 351, 151, 451], [110, 220, 330, 251, 440, 351, 451, 151], [110, 220, 330, 251, 440, 451, 151, 351], [110, 220, 330, 251, 440, 451, 351, 151], [110, 220, 330, 351, 151, 251, 440, 451], [110, 220, 330, 351, 151, 440, 251, 451], [110, 220, 330, 351, 151, 440, 451, 251], [110, 220, 330, 351, 251, 151, 440, 451], [110, 220, 330, 351, 251, 440, 151, 451], [110, 220, 330, 351, 251, 440, 451, 151], [110, 220, 330, 351, 440, 151, 251, 451], [110, 220, 330, 351, 440, 151, 451, 251], [110, 220, 330, 351, 440, 251, 151, 451], [110, 220, 330, 351, 440, 251, 451, 151], [110, 220, 330, 351, 440, 451, 151, 251], [110, 220, 330, 351, 440, 451, 251, 151], [110, 220, 330, 440, 151, 251, 351, 451], [110, 220, 330, 440, 151, 251, 451, 351], [110, 220, 330, 440, 151, 351, 251, 451], [110, 220, 330, 440, 151, 351, 451, 251], [110, 220, 330, 440, 151, 451, 251, 351], [110, 220, 330, 440, 151, 451, 351, 251], [110, 220, 330, 440, 251, 151, 351, 451], [110, 220, 330, 440, 251, 151, 451, 351], [110, 220, 330, 440, 251, 351, 151, 451], [110, 220, 330, 440, 251, 351, 451, 151], [110, 220, 330, 440, 251, 451, 151, 351], [110, 220, 330, 440, 251, 451, 351, 151], [110, 220, 330, 440, 351, 151, 251, 451], [110, 220, 330, 440, 351, 151, 451, 251], [110, 220, 330, 440, 351, 251, 151, 451], [110, 220, 330, 440, 351, 251, 451, 151], [110, 220, 330, 440, 351, 451, 151, 251], [110, 220, 330, 440, 351, 451, 251, 151], [110, 220, 330, 440, 451, 151, 251, 351], [110, 220, 330, 440, 451, 151, 351, 251], [110, 220, 330, 440, 451, 251, 151, 351], [110, 220, 330, 440, 451, 251, 351, 151], [110, 220, 330, 440, 451, 351, 151, 251], [110, 220, 330, 440, 451, 351, 251, 151]]
@[irreducible] def mc50_0 : List (List Nat) := [[110, 121, 220, 231, 231, 330, 341, 341, 341, 440, 451, 451, 451, 451, 550, 561, 561, 561, 561, 561]]
@[irreducible] def mc51_0 : List (List Nat) := [[110, 121, 220, 231, 231, 330, 341, 341, 341, 440, 451, 451, 451, 461, 550, 561, 561, 561, 561], [110, 121, 220, 231, 231, 330, 341, 341, 341, 440, 451, 451, 451, 550, 461, 561, 561, 561, 561], [110, 121, 220, 231, 231, 330, 341, 341, 341, 440, 451, 451, 451, 550, 561, 461, 561, 561, 561], [110, 121, 220, 231, 231, 330, 341, 341, 341, 440, 451, 451, 451, 550, 561, 561, 461, 561, 561], [110, 121, 220, 231, 231, 330, 341, 341, 341, 440, 451, 451, 451, 550, 561, 561, 561, 461, 561], [110, 121, 220, 231, 231, 330, 341, 341, 341, 440, 451, 451, 451, 550, 561, 561, 561, 561, 461], [110, 121, 220, 231, 231, 330, 341, 341, 341, 440, 451, 451, 461, 451, 550, 561, 561, 561, 561], [110, 121, 220, 231, 231, 330, 341, 341, 341, 440, 451, 461, 451, 451, 550, 561, 561, 561, 561], [110, 121, 220, 231, 231, 330, 341, 341, 341, 440, 461, 451, 451, 451, 550, 561, 561, 561, 561]]
@[irreducible] def mc51_1 : List (List Nat) := [[110, 121, 220, 231, 231, 330, 341, 341, 341, 440, 451, 451, 452, 550, 561, 561, 561, 561, 561], [110, 121, 220, 231, 231, 330, 341, 341, 341, 440, 451, 452, 451, 550, 561, 561, 561, 561, 561], [110, 121, 220, 231, 231, 330, 341, 341, 341, 440, 452, 451, 451, 550, 561, 561, 561, 561, 561]]
@[irreducible] def mc51_2 : List (List Nat) := [[110, 121, 220, 231, 231, 330, 341, 341, 351, 440, 451, 451, 451, 550, 561, 561, 561, 561, 561], [110, 121, 220, 231, 231, 330, 341, 341, 440, 351, 451, 451, 451, 550, 561, 561, 561, 561, 561], [110, 121, 220, 231, 231, 330, 341, 341, 440, 451, 351, 451, 451, 550, 561, 561, 561, 561, 561], [110, 121, 220, 231, 231, 330, 341, 341, 440, 451, 451, 351, 451, 550, 561, 561, 561, 561, 561], [110, 121, 220, 231, 231, 330, 341, 341, 440, 451, 451, 451, 351, 550, 561, 561, 561, 561, 561], [110, 121, 220, 231, 231, 330, 341, 351, 341, 440, 451, 451, 451, 550, 561, 561, 561, 561, 561], [110, 121, 220, 231, 231, 330, 351, 341, 341, 440, 451, 451, 451, 550, 561, 561, 561, 561, 561]]
@[irreducible] def mc51_3 : List (List Nat) := [[110, 121, 220, 231, 231, 330, 341, 342, 440, 451, 451, 451, 451, 550, 561, 561, 561, 561, 561], [110, 121, 220, 231, 231, 330, 342, 341, 440, 451, 451, 451, 451, 550, 561, 561, 561, 561, 561]]
@[irreducible] def mc51_4 : List (List Nat) := [[110, 121, 220, 231, 241, 330, 341, 341, 440, 451, 451, 451, 451, 550, 561, 561, 561, 561, 561], [110, 121, 220, 231, 330, 241, 341, 341, 440, 451, 451, 451, 451, 550, 561, 561, 561, 561, 561], [110, 121, 220, 231, 330, 341, 241, 341, 440, 451, 451, 451, 451, 550, 561, 561, 561, 561, 561], [110, 121, 220, 231, 330, 341, 341, 241, 440, 451, 451, 451, 451, 550, 561, 561, 561, 561, 561], [110, 121, 220, 241, 231, 330, 341, 341, 440, 451, 451, 451, 451, 550, 561, 561, 561, 561, 561]]
@[irreducible] def mc51_5 : List (List Nat) := [[110, 121, 220, 232, 330, 341, 341, 341, 440, 451, 451, 451, 451, 550, 561, 561, 561, 561, 561]]
@[irreducible] def mc51_6 : List (List Nat) := [[110, 131, 220, 231, 330, 341, 341, 341, 440, 451, 451, 451, 451, 550, 561, 561, 561, 561, 561], [110, 220, 131, 231, 330, 341, 341, 341, 440, 451, 451, 451, 451, 550, 561, 561, 561, 561, 561], [110, 220, 231, 131, 330, 341, 341, 341, 440, 451, 451, 451, 451, 550, 561, 561, 561, 561, 561]]
end K76
set_option maxRecDepth 1000000
namespace K76
open PySem L2 MM
theorem mk46_0 : MkF 4 [] mc46_0 := by unfold MkF; kernel_rfl
theorem mk44_0 : MkF 4 [(1, 2, 1), (2, 3, 1)] mc44_0 := by unfold MkF; kernel_rfl
theorem mk43_8 : MkF 4 [(1, 2, 1), (2, 4, 1), (3, 4, 1)] mc43_8 := by unfold MkF; kernel_rfl
theorem mk43_4 : MkF 4 [(1, 2, 1), (2, 3, 2), (3, 4, 1)] mc43_4 := by unfold MkF; kernel_rfl
theorem mk42_11 : MkF 4 [(1, 3, 1), (2, 4, 1), (3, 4, 1), (3, 4, 1)] mc42_11 := by unfold MkF; kernel_rfl
theorem mk43_14 : MkF 4 [(1, 3, 1), (2, 4, 1), (3, 4, 2)] mc43_14 := by unfold MkF; kernel_rfl
theorem mk51_1 : MkF 5 [(1, 2, 1), (2, 3, 1), (2, 3, 1), (3, 4, 1), (3, 4, 1), (3, 4, 1), (4, 5, 1), (4, 5, 1), (4, 5, 2)] mc51_1 := by unfold MkF; kernel_rfl
theorem mk51_3 : MkF 5 [(1, 2, 1), (2, 3, 1), (2, 3, 1), (3, 4, 1), (3, 4, 2), (4, 5, 1), (4, 5, 1), (4, 5, 1), (4, 5, 1)] mc51_3 := by unfold MkF; kernel_rfl
theorem mk41_1 : MkF 4 [(1, 2, 1), (2, 3, 1), (2, 3, 1), (3, 4, 1), (3, 4, 2)] mc41_1 := by unfold MkF; kernel_rfl
theorem mk30_0 : MkF 3 [(1, 2, 1), (2, 3, 1), (2, 3, 1)] mc30_0 := by unfold MkF; kernel_rfl
end K76
set_option maxRecDepth 1000000
namespace K76
open PySem L2 MM
theorem mk45_2 : MkF 4 [(1, 4, 1)] mc45_2 := by unfold MkF; kernel_rfl
theorem mk45_5 : MkF 4 [(3, 4, 1)] mc45_5 := by unfold MkF; kernel_rfl
theorem mk44_14 : MkF 4 [(2, 4, 1), (3, 4, 1)] mc44_14 := by unfold MkF; kernel_rfl
theorem mk51_0 : MkF 5 [(1, 2, 1), (2, 3, 1), (2, 3, 1), (3, 4, 1), (3, 4, 1), (3, 4, 1), (4, 5, 1), (4, 5, 1), (4, 5, 1)] mc51_0 := by unfold MkF; kernel_rfl
theorem mk43_19 : MkF 4 [(2, 3, 1), (3, 4, 1), (3, 4, 1)] mc43_19 := by unfold MkF; kernel_rfl
theorem mk33_0 : MkF 3 [] mc33_0 := by unfold MkF; kernel_rfl
theorem mk42_8 : MkF 4 [(1, 2, 1), (2, 4, 1), (2, 4, 1), (3, 4, 1)] mc42_8 := by unfold MkF; kernel_rfl
theorem mk32_0 : MkF 3 [(1, 2, 1)] mc32_0 := by unfold MkF; kernel_rfl
theorem mk31_2 : MkF 3 [(1, 3, 1), (2, 3, 1)] mc31_2 := by unfold MkF; kernel_rfl
theorem mk43_6 : MkF 4 [(1, 2, 1), (2, 3, 2), (3, 4, 3)] mc43_6 := by unfold MkF; kernel_rfl
end K76
set_option maxRecDepth 1000000
namespace K76
open PySem L2 MM
theorem mk44_7 : MkF 4 [(1, 3, 1), (3, 4, 1)] mc44_7 := by unfold MkF; kernel_rfl
theorem mk45_3 : MkF 4 [(2, 3, 1)] mc45_3 := by unfold MkF; kernel_rfl
theorem mk44_5 : MkF 4 [(1, 3, 1), (2, 3, 1)] mc44_5 := by unfold MkF; kernel_rfl
theorem mk42_0 : MkF 4 [(1, 2, 1), (2, 3, 1), (2, 3, 1), (3, 4, 1)] mc42_0 := by unfold MkF; kernel_rfl
theorem mk42_5 : MkF 4 [(1, 2, 1), (2, 3, 1), (3, 4, 1), (3, 4, 1)] mc42_5 := by unfold MkF; kernel_rfl
theorem mk41_0 : MkF 4 [(1, 2, 1), (2, 3, 1), (2, 3, 1), (3, 4, 1), (3, 4, 1)] mc41_0 := by unfold MkF; kernel_rfl
theorem mk42_10 : MkF 4 [(1, 3, 1), (2, 3, 1), (3, 4, 1), (3, 4, 2)] mc42_10 := by unfold MkF; kernel_rfl
theorem mk32_2 : MkF 3 [(2, 3, 1)] mc32_2 := by unfold MkF; kernel_rfl
theorem mk42_7 : MkF 4 [(1, 2, 1), (2, 3, 2), (3, 4, 1), (3, 4, 2)] mc42_7 := by unfold MkF; kernel_rfl
theorem mk42_2 : MkF 4 [(1, 2, 1), (2, 3, 1), (2, 3, 1), (3, 4, 3)] mc42_2 := by unfold MkF; kernel_rfl
end K76
set_option maxRecDepth 1000000
namespace K76
open PySem L2 MM
theorem mk45_1 : MkF 4 [(1, 3, 1)] mc45_1 := by unfold MkF; kernel_rfl
theorem mk43_2 : MkF 4 [(1, 2, 1), (2, 3, 1), (3, 4, 1)] mc43_2 := by unfold MkF; kernel_rfl
theorem mk44_11 : MkF 4 [(1, 4, 1), (3, 4, 1)] mc44_11 := by unfold MkF; kernel_rfl
theorem mk43_11 : MkF 4 [(1, 3, 1), (2, 3, 1), (3, 4, 2)] mc43_11 := by unfold MkF; kernel_rfl
theorem mk44_3 : MkF 4 [(1, 2, 1), (2, 4, 2)] mc44_3 := by unfold MkF; kernel_rfl
theorem mk44_1 : MkF 4 [(1, 2, 1), (2, 3, 2)] mc44_1 := by unfold MkF; kernel_rfl
theorem mk43_5 : MkF 4 [(1, 2, 1), (2, 3, 2), (3, 4, 2)] mc43_5 := by unfold MkF; kernel_rfl
theorem mk51_6 : MkF 5 [(1, 3, 1), (2, 3, 1), (3, 4, 1), (3, 4, 1), (3, 4, 1), (4, 5, 1), (4, 5, 1), (4, 5, 1), (4, 5, 1)] mc51_6 := by unfold MkF; kernel_rfl
theorem mk51_5 : MkF 5 [(1, 2, 1), (2, 3, 2), (3, 4, 1), (3, 4, 1), (3, 4, 1), (4, 5, 1), (4, 5, 1), (4, 5, 1), (4, 5, 1)] mc51_5 := by unfold MkF; kernel_rfl
theorem mk31_1 : MkF 3 [(1, 2, 1), (2, 3, 2)] mc31_1 := by unfold MkF; kernel_rfl
end K76
set_option maxRecDepth 1000000
namespace K76
open PySem L2 MM
theorem mk45_4 : MkF 4 [(2, 4, 1)] mc45_4 := by unfold MkF; kernel_rfl
theorem mk44_12 : MkF 4 [(2, 3, 1), (3, 4, 1)] mc44_12 := by unfold MkF; kernel_rfl
theorem mk42_3 : MkF 4 [(1, 2, 1), (2, 3, 1), (2, 4, 1), (3, 4, 1)] mc42_3 := by unfold MkF; kernel_rfl
theorem mk44_4 : MkF 4 [(1, 2, 1), (3, 4, 1)] mc44_4 := by unfold MkF; kernel_rfl
theorem mk43_18 : MkF 4 [(1, 4, 1), (2, 4, 1), (3, 4, 1)] mc43_18 := by unfold MkF; kernel_rfl
theorem mk42_6 : MkF 4 [(1, 2, 1), (2, 3, 2), (3, 4, 1), (3, 4, 1)] mc42_6 := by unfold MkF; kernel_rfl
theorem mk32_1 : MkF 3 [(1, 3, 1)] mc32_1 := by unfold MkF; kernel_rfl
theorem mk41_4 : MkF 4 [(1, 3, 1), (2, 3, 1), (3, 4, 1), (3, 4, 1), (3, 4, 1)] mc41_4 := by unfold MkF; kernel_rfl
theorem mk43_9 : MkF 4 [(1, 2, 1), (2, 4, 2), (3, 4, 1)] mc43_9 := by unfold MkF; kernel_rfl
theorem mk20_0 : MkF 2 [(1, 2, 1)] mc20_0 := by unfold MkF; kernel_rfl
end K76
set_option maxRecDepth 1000000
namespace K76
open PySem L2 MM
theorem mk44_2 : MkF 4 [(1, 2, 1), (2, 4, 1)] mc44_2 := by unfold MkF; kernel_rfl
theorem mk44_9 : MkF 4 [(1, 4, 1), (2, 3, 1)] mc44_9 := by unfold MkF; kernel_rfl
theorem mk43_16 : MkF 4 [(1, 4, 1), (2, 3, 1), (3, 4, 1)] mc43_16 := by unfold MkF; kernel_rfl
theorem mk43_7 : MkF 4 [(1, 2, 1), (2, 4, 1), (2, 4, 1)] mc43_7 := by unfold MkF; kernel_rfl
theorem mk44_8 : MkF 4 [(1, 3, 1), (3, 4, 2)] mc44_8 := by unfold MkF; kernel_rfl
theorem mk43_3 : MkF 4 [(1, 2, 1), (2, 3, 1), (3, 4, 2)] mc43_3 := by unfold MkF; kernel_rfl
theorem mk41_2 : MkF 4 [(1, 2, 1), (2, 3, 1), (2, 4, 1), (3, 4, 1), (3, 4, 1)] mc41_2 := by unfold MkF; kernel_rfl
theorem mk42_4 : MkF 4 [(1, 2, 1), (2, 3, 1), (2, 4, 1), (3, 4, 2)] mc42_4 := by unfold MkF; kernel_rfl
theorem mk50_0 : MkF 5 [(1, 2, 1), (2, 3, 1), (2, 3, 1), (3, 4, 1), (3, 4, 1), (3, 4, 1), (4, 5, 1), (4, 5, 1), (4, 5, 1), (4, 5, 1)] mc50_0 := by unfold MkF; kernel_rfl
theorem mk41_3 : MkF 4 [(1, 2, 1), (2, 3, 2), (3, 4, 1), (3, 4, 1), (3, 4, 1)] mc41_3 := by unfold MkF; kernel_rfl
end K76
set_option maxRecDepth 1000000
namespace K76
open PySem L2 MM
theorem mk44_6 : MkF 4 [(1, 3, 1), (2, 4, 1)] mc44_6 := by unfold MkF; kernel_rfl
theorem mk44_10 : MkF 4 [(1, 4, 1), (2, 4, 1)] mc44_10 := by unfold MkF; kernel_rfl
theorem mk43_1 : MkF 4 [(1, 2, 1), (2, 3, 1), (2, 4, 1)] mc43_1 := by unfold MkF; kernel_rfl
theorem mk43_15 : MkF 4 [(1, 3, 1), (3, 4, 1), (3, 4, 1)] mc43_15 := by unfold MkF; kernel_rfl
theorem mk51_2 : MkF 5 [(1, 2, 1), (2, 3, 1), (2, 3, 1), (3, 4, 1), (3, 4, 1), (3, 5, 1), (4, 5, 1), (4, 5, 1), (4, 5, 1)] mc51_2 := by unfold MkF; kernel_rfl
theorem mk44_13 : MkF 4 [(2, 3, 1), (3, 4, 2)] mc44_13 := by unfold MkF; kernel_rfl
theorem mk42_12 : MkF 4 [(1, 4, 1), (2, 3, 1), (3, 4, 1), (3, 4, 1)] mc42_12 := by unfold MkF; kernel_rfl
theorem mk31_0 : MkF 3 [(1, 2, 1), (2, 3, 1)] mc31_0 := by unfold MkF; kernel_rfl
theorem mk43_12 : MkF 4 [(1, 3, 1), (2, 3, 1), (3, 4, 3)] mc43_12 := by unfold MkF; kernel_rfl
theorem mk10_0 : MkF 1 [] mc10_0 := by unfold MkF; kernel_rfl
end K76
set_option maxRecDepth 1000000
namespace K76
open PySem L2 MM
theorem mk43_13 : MkF 4 [(1, 3, 1), (2, 4, 1), (3, 4, 1)] mc43_13 := by unfold MkF; kernel_rfl
theorem mk43_10 : MkF 4 [(1, 3, 1), (2, 3, 1), (3, 4, 1)] mc43_10 := by unfold MkF; kernel_rfl
theorem mk45_0 : MkF 4 [(1, 2, 1)] mc45_0 := by unfold MkF; kernel_rfl
theorem mk42_9 : MkF 4 [(1, 3, 1), (2, 3, 1), (3, 4, 1), (3, 4, 1)] mc42_9 := by unfold MkF; kernel_rfl
theorem mk43_0 : MkF 4 [(1, 2, 1), (2, 3, 1), (2, 3, 1)] mc43_0 := by unfold MkF; kernel_rfl
theorem mk51_4 : MkF 5 [(1, 2, 1), (2, 3, 1), (2, 4, 1), (3, 4, 1), (3, 4, 1), (4, 5, 1), (4, 5, 1), (4, 5, 1), (4, 5, 1)] mc51_4 := by unfold MkF; kernel_rfl
theorem mk42_1 : MkF 4 [(1, 2, 1), (2, 3, 1), (2, 3, 1), (3, 4, 2)] mc42_1 := by unfold MkF; kernel_rfl
theorem mk43_17 : MkF 4 [(1, 4, 1), (2, 3, 1), (3, 4, 2)] mc43_17 := by unfold MkF; kernel_rfl
theorem mk40_0 : MkF 4 [(1, 2, 1), (2, 3, 1), (2, 3, 1), (3, 4, 1), (3, 4, 1), (3, 4, 1)] mc40_0 := by unfold MkF; kernel_rfl
theorem mk21_0 : MkF 2 [] mc21_0 := by unfold MkF; kernel_rfl
end K76
set_option maxRecDepth 1000000
namespace K76
open PySem L2 MM
def ps10 : List (List T3 × List (List Nat)) := [([], mc10_0)]
theorem pp10 : Pp 1 0 ps10 := ⟨by kernel_rfl, (pall_cons mk10_0 pall_nil), by decide +kernel, by decide +kernel⟩
def ps11 : List (List T3 × List (List Nat)) := []
theorem pp11 : Pp 1 1 ps11 := ⟨by kernel_rfl, pall_nil, by decide +kernel, by decide +kernel⟩
def ps12 : List (List T3 × List (List Nat)) := []
theorem pp12 : Pp 1 2 ps12 := ⟨by kernel_rfl, pall_nil, by decide +kernel, by decide +kernel⟩
def ps13 : List (List T3 × List (List Nat)) := []
theorem pp13 : Pp 1 3 ps13 := ⟨by kernel_rfl, pall_nil, by decide +kernel, by decide +kernel⟩
def ps14 : List (List T3 × List (List Nat)) := []
theorem pp14 : Pp 1 4 ps14 := ⟨by kernel_rfl, pall_nil, by decide +kernel, by decide +kernel⟩
def ps15 : List (List T3 × List (List Nat)) := []
theorem pp15 : Pp 1 5 ps15 := ⟨by kernel_rfl, pall_nil, by decide +kernel, by decide +kernel⟩
def ps16 : List (List T3 × List (List Nat)) := []
theorem pp16 : Pp 1 6 ps16 := ⟨by kernel_rfl, pall_nil, by decide +kernel, by decide +kernel⟩
def ps20 : List (List T3 × List (List Nat)) := [([(1, 2, 1)], mc20_0)]
theorem pp20 : Pp 2 0 ps20 := ⟨by kernel_rfl, (pall_cons mk20_0 pall_nil), by decide +kernel, by decide +kernel⟩
def ps21 : List (List T3 × List (List Nat)) := [([], mc21_0)]
theorem pp21 : Pp 2 1 ps21 := ⟨by kernel_rfl, (pall_cons mk21_0 pall_nil), by decide +kernel, by decide +kernel⟩
def ps22 : List (List T3 × List (List Nat)) := []
theorem pp22 : Pp 2 2 ps22 := ⟨by kernel_rfl, pall_nil, by decide +kernel, by decide +kernel⟩
def ps23 : List (List T3 × List (List Nat)) := []
theorem pp23 : Pp 2 3 ps23 := ⟨by kernel_rfl, pall_nil, by decide +kernel, by decide +kernel⟩
def ps24 : List (List T3 × List (List Nat)) := []
theorem pp24 : Pp 2 4 ps24 := ⟨by kernel_rfl, pall_nil, by decide +kernel, by decide +kernel⟩
def ps25 : List (List T3 × List (List Nat)) := []
theorem pp25 : Pp 2 5 ps25 := ⟨by kernel_rfl, pall_nil, by decide +kernel, by decide +kernel⟩
def ps26 : List (List T3 × List (List Nat)) := []
theorem pp26 : Pp 2 6 ps26 := ⟨by kernel_rfl, pall_nil, by decide +kernel, by decide +kernel⟩
def ps30 : List (List T3 × List (List Nat)) := [([(1, 2, 1), (2, 3, 1), (2, 3, 1)], mc30_0)]
theorem pp30 : Pp 3 0 ps30 := ⟨by kernel_rfl, (pall_cons mk30_0 pall_nil), by decide +kernel, by decide +kernel⟩
def ps31 : List (List T3 × List (List Nat)) := [([(1, 2, 1), (2, 3, 1)], mc31_0), ([(1, 2, 1), (2, 3, 2)], mc31_1), ([(1, 3, 1), (2, 3, 1)], mc31_2)]
theorem pp31 : Pp 3 1 ps31 := ⟨by kernel_rfl, (pall_cons mk31_0 (pall_cons mk31_1 (pall_cons mk31_2 pall_nil))), by decide +kernel, by decide +kernel⟩
def ps32 : List (List T3 × List (List Nat)) := [([(1, 2, 1)], mc32_0), ([(1, 3, 1)], mc32_1), ([(2, 3, 1)], mc32_2)]
theorem pp32 : Pp 3 2 ps32 := ⟨by kernel_rfl, (pall_cons mk32_0 (pall_cons mk32_1 (pall_cons mk32_2 pall_nil))), by decide +kernel, by decide +kernel⟩
def ps33 : List (List T3 × List (List Nat)) := [([], mc33_0)]
theorem pp33 : Pp 3 3 ps33 := ⟨by kernel_rfl, (pall_cons mk33_0 pall_nil), by decide +kernel, by decide +kernel⟩
def ps34 : List (List T3 × List (List Nat)) := []
theorem pp34 : Pp 3 4 ps34 := ⟨by kernel_rfl, pall_nil, by decide +kernel, by decide +kernel⟩
def ps35 : List (List T3 × List (List Nat)) := []
theorem pp35 : Pp 3 5 ps35 := ⟨by kernel_rfl, pall_nil, by decide +kernel, by decide +kernel⟩
def ps36 : List (List T3 × List (List Nat)) := []
theorem pp36 : Pp 3 6 ps36 := ⟨by kernel_rfl, pall_nil, by decide +kernel, by decide +kernel⟩
def ps40 : List (List T3 × List (List Nat)) := [([(1, 2, 1), (2, 3, 1), (2, 3, 1), (3, 4, 1), (3, 4, 1), (3, 4, 1)], mc40_0)]
theorem pp40 : Pp 4 0 ps40 := ⟨by kernel_rfl, (pall_cons mk40_0 pall_nil), by decide +kernel, by decide +kernel⟩
def ps41 : List (List T3 × List (List Nat)) := [([(1, 2, 1), (2, 3, 1), (2, 3, 1), (3, 4, 1), (3, 4, 1)], mc41_0), ([(1, 2, 1), (2, 3, 1), (2, 3, 1), (3, 4, 1), (3, 4, 2)], mc41_1), ([(1, 2, 1), (2, 3, 1), (2, 4, 1), (3, 4, 1), (3, 4, 1)], mc41_2), ([(1, 2, 1), (2, 3, 2), (3, 4, 1), (3, 4, 1), (3, 4, 1)], mc41_3), ([(1, 3, 1), (2, 3, 1), (3, 4, 1), (3, 4, 1), (3, 4, 1)], mc41_4)]
theorem pp41 : Pp 4 1 ps41 := ⟨by kernel_rfl, (pall_cons mk41_0 (pall_cons mk41_1 (pall_cons mk41_2 (pall_cons mk41_3 (pall_cons mk41_4 pall_nil))))), by decide +kernel, by decide +kernel⟩
def ps42 : List (List T3 × List (List Nat)) := [([(1, 2, 1), (2, 3, 1), (2, 3, 1), (3, 4, 1)], mc42_0), ([(1, 2, 1), (2, 3, 1), (2, 3, 1), (3, 4, 2)], mc42_1), ([(1, 2, 1), (2, 3, 1), (2, 3, 1), (3, 4, 3)], mc42_2), ([(1, 2, 1), (2, 3, 1), (2, 4, 1), (3, 4, 1)], mc42_3), ([(1, 2, 1), (2, 3, 1), (2, 4, 1), (3, 4, 2)], mc42_4), ([(1, 2, 1), (2, 3, 1), (3, 4, 1), (3, 4, 1)], mc42_5), ([(1, 2, 1), (2, 3, 2), (3, 4, 1), (3, 4, 1)], mc42_6), ([(1, 2, 1), (2, 3, 2), (3, 4, 1), (3, 4, 2)], mc42_7), ([(1, 2, 1), (2, 4, 1), (2, 4, 1), (3, 4, 1)], mc42_8), ([(1, 3, 1), (2, 3, 1), (3, 4, 1), (3, 4, 1)], mc42_9), ([(1, 3, 1), (2, 3, 1), (3, 4, 1), (3, 4, 2)], mc42_10), ([(1, 3, 1), (2, 4, 1), (3, 4, 1), (3, 4, 1)], mc42_11), ([(1, 4, 1), (2, 3, 1), (3, 4, 1), (3, 4, 1)], mc42_12)]
theorem pp42 : Pp 4 2 ps42 := ⟨by kernel_rfl, (pall_cons mk42_0 (pall_cons mk42_1 (pall_cons mk42_2 (pall_cons mk42_3 (pall_cons mk42_4 (pall_cons mk42_5 (pall_cons mk42_6 (pall_cons mk42_7 (pall_cons mk42_8 (pall_cons mk42_9 (pall_cons mk42_10 (pall_cons mk42_11 (pall_cons mk42_12 pall_nil))))))))))))), by decide +kernel, by decide +kernel⟩
def ps43 : List (List T3 × List (List Nat)) := [([(1, 2, 1), (2, 3, 1), (2, 3, 1)], mc43_0), ([(1, 2, 1), (2, 3, 1), (2, 4, 1)], mc43_1), ([(1, 2, 1), (2, 3, 1), (3, 4, 1)], mc43_2), ([(1, 2, 1), (2, 3, 1), (3, 4, 2)], mc43_3), ([(1, 2, 1), (2, 3, 2), (3, 4, 1)], mc43_4), ([(1, 2, 1), (2, 3, 2), (3, 4, 2)], mc43_5), ([(1, 2, 1), (2, 3, 2), (3, 4, 3)], mc43_6), ([(1, 2, 1), (2, 4, 1), (2, 4, 1)], mc43_7), ([(1, 2, 1), (2, 4, 1), (3, 4, 1)], mc43_8), ([(1, 2, 1), (2, 4, 2), (3, 4, 1)], mc43_9), ([(1, 3, 1), (2, 3, 1), (3, 4, 1)], mc43_10), ([(1, 3, 1), (2, 3, 1), (3, 4, 2)], mc43_11), ([(1, 3, 1), (2, 3, 1), (3, 4, 3)], mc43_12), ([(1, 3, 1), (2, 4, 1), (3, 4, 1)], mc43_13), ([(1, 3, 1), (2, 4, 1), (3, 4, 2)], mc43_14), ([(1, 3, 1), (3, 4, 1), (3, 4, 1)], mc43_15), ([(1, 4, 1), (2, 3, 1), (3, 4, 1)], mc43_16), ([(1, 4, 1), (2, 3, 1), (3, 4, 2)], mc43_17), ([(1, 4, 1), (2, 4, 1), (3, 4, 1)], mc43_18), ([(2, 3, 1), (3, 4, 1), (3, 4, 1)], mc43_19)]
theorem pp43 : Pp 4 3 ps43 := ⟨by kernel_rfl, (pall_cons mk43_0 (pall_cons mk43_1 (pall_cons mk43_2 (pall_cons mk43_3 (pall_cons mk43_4 (pall_cons mk43_5 (pall_cons mk43_6 (pall_cons mk43_7 (pall_cons mk43_8 (pall_cons mk43_9 (pall_cons mk43_10 (pall_cons mk43_11 (pall_cons mk43_12 (pall_cons mk43_13 (pall_cons mk43_14 (pall_cons mk43_15 (pall_cons mk43_16 (pall_cons mk43_17 (pall_cons mk43_18 (pall_cons mk43_19 pall_nil)))))))))))))))))))), by decide +kernel, by decide +kernel⟩
def ps44 : List (List T3 × List (List Nat)) := [([(1, 2, 1), (2, 3, 1)], mc44_0), ([(1, 2, 1), (2, 3, 2)], mc44_1), ([(1, 2, 1), (2, 4, 1)], mc44_2), ([(1, 2, 1), (2, 4, 2)], mc44_3), ([(1, 2, 1), (3, 4, 1)], mc44_4), ([(1, 3, 1), (2, 3, 1)], mc44_5), ([(1, 3, 1), (2, 4, 1)], mc44_6), ([(1, 3, 1), (3, 4, 1)], mc44_7), ([(1, 3, 1), (3, 4, 2)], mc44_8), ([(1, 4, 1), (2, 3, 1)], mc44_9), ([(1, 4, 1), (2, 4, 1)], mc44_10), ([(1, 4, 1), (3, 4, 1)], mc44_11), ([(2, 3, 1), (3, 4, 1)], mc44_12), ([(2, 3, 1), (3, 4, 2)], mc44_13), ([(2, 4, 1), (3, 4, 1)], mc44_14)]
theorem pp44 : Pp 4 4 ps44 := ⟨by kernel_rfl, (pall_cons mk44_0 (pall_cons mk44_1 (pall_cons mk44_2 (pall_cons mk44_3 (pall_cons mk44_4 (pall_cons mk44_5 (pall_cons mk44_6 (pall_cons mk44_7 (pall_cons mk44_8 (pall_cons mk44_9 (pall_cons mk44_10 (pall_cons mk44_11 (pall_cons mk44_12 (pall_cons mk44_13 (pall_cons mk44_14 pall_nil))))))))))))))), by decide +kernel, by decide +kernel⟩
def ps45 : List (List T3 × List (List Nat)) := [([(1, 2, 1)], mc45_0), ([(1, 3, 1)], mc45_1), ([(1, 4, 1)], mc45_2), ([(2, 3, 1)], mc45_3), ([(2, 4, 1)], mc45_4), ([(3, 4, 1)], mc45_5)]
theorem pp45 : Pp 4 5 ps45 := ⟨by kernel_rfl, (pall_cons mk45_0 (pall_cons mk45_1 (pall_cons mk45_2 (pall_cons mk45_3 (pall_cons mk45_4 (pall_cons mk45_5 pall_nil)))))), by decide +kernel, by decide +kernel⟩
def ps46 : List (List T3 × List (List Nat)) := [([], mc46_0)]
theorem pp46 : Pp 4 6 ps46 := ⟨by kernel_rfl, (pall_cons mk46_0 pall_nil), by decide +kernel, by decide +kernel⟩
def ps50 : List (List T3 × List (List Nat)) := [([(1, 2, 1), (2, 3, 1), (2, 3, 1), (3, 4, 1), (3, 4, 1), (3, 4, 1), (4, 5, 1), (4, 5, 1), (4, 5, 1), (4, 5, 1)], mc50_0)]
theorem yu0 : A5.YU 0 = ps50.map fun p => lT p.1 := by kernel_rfl
theorem pp50 : Pp 5 0 ps50 := ⟨by rw [A5.drawings5 0 (by kernel_rfl) (by kernel_rfl), yu0], (pall_cons mk50_0 pall_nil), by decide +kernel, by decide +kernel⟩
def ps51 : List (List T3 × List (List Nat)) := [([(1, 2, 1), (2, 3, 1), (2, 3, 1), (3, 4, 1), (3, 4, 1), (3, 4, 1), (4, 5, 1), (4, 5, 1), (4, 5, 1)], mc51_0), ([(1, 2, 1), (2, 3, 1), (2, 3, 1), (3, 4, 1), (3, 4, 1), (3, 4, 1), (4, 5, 1), (4, 5, 1), (4, 5, 2)], mc51_1), ([(1, 2, 1), (2, 3, 1), (2, 3, 1), (3, 4, 1), (3, 4, 1), (3, 5, 1), (4, 5, 1), (4, 5, 1), (4, 5, 1)], mc51_2), ([(1, 2, 1), (2, 3, 1), (2, 3, 1), (3, 4, 1), (3, 4, 2), (4, 5, 1), (4, 5, 1), (4, 5, 1), (4, 5, 1)], mc51_3), ([(1, 2, 1), (2, 3, 1), (2, 4, 1), (3, 4, 1), (3, 4, 1), (4, 5, 1), (4, 5, 1), (4, 5, 1), (4, 5, 1)], mc51_4), ([(1, 2, 1), (2, 3, 2), (3, 4, 1), (3, 4, 1), (3, 4, 1), (4, 5, 1), (4, 5, 1), (4, 5, 1), (4, 5, 1)], mc51_5), ([(1, 3, 1), (2, 3, 1), (3, 4, 1), (3, 4, 1), (3, 4, 1), (4, 5, 1), (4, 5, 1), (4, 5, 1), (4, 5, 1)], mc51_6)]
theorem yu1 : A5.YU 1 = ps51.map fun p => lT p.1 := by kernel_rfl
theorem pp51 : Pp 5 1 ps51 := ⟨by rw [A5.drawings5 1 (by kernel_rfl) (by kernel_rfl), yu1], (pall_cons mk51_0 (pall_cons mk51_1 (pall_cons mk51_2 (pall_cons mk51_3 (pall_cons mk51_4 (pall_cons mk51_5 (pall_cons mk51_6 pall_nil))))))), by decide +kernel, by decide +kernel⟩
theorem pp_all {d k : Int} (h1 : 1 ≤ d) (h5 : d ≤ 5) (k0 : 0 ≤ k) (k6 : k ≤ 6) (hk : d = 5 → k ≤ 1) : ∃ ps, Pp d k ps := by
  rcases (show d = 1 ∨ d = 2 ∨ d = 3 ∨ d = 4 ∨ d = 5 by omega) with rfl | rfl | rfl | rfl | rfl
  · rcases (show k = 0 ∨ k = 1 ∨ k = 2 ∨ k = 3 ∨ k = 4 ∨ k = 5 ∨ k = 6 by omega) with rfl | rfl | rfl | rfl | rfl | rfl | rfl
    · exact ⟨_, pp10⟩
    · exact ⟨_, pp11⟩
    · exact ⟨_, pp12⟩
    · exact ⟨_, pp13⟩
    · exact ⟨_, pp14⟩
    · exact ⟨_, pp15⟩
    · exact ⟨_, pp16⟩
  · rcases (show k = 0 ∨ k = 1 ∨ k = 2 ∨ k = 3 ∨ k = 4 ∨ k = 5 ∨ k = 6 by omega) with rfl | rfl | rfl | rfl | rfl | rfl | rfl
    · exact ⟨_, pp20⟩
    · exact ⟨_, pp21⟩
    · exact ⟨_, pp22⟩
    · exact ⟨_, pp23⟩
    · exact ⟨_, pp24⟩
    · exact ⟨_, pp25⟩
    · exact ⟨_, pp26⟩
  · rcases (show k = 0 ∨ k = 1 ∨ k = 2 ∨ k = 3 ∨ k = 4 ∨ k = 5 ∨ k = 6 by omega) with rfl | rfl | rfl | rfl | rfl | rfl | rfl
    · exact ⟨_, pp30⟩
    · exact ⟨_, pp31⟩
    · exact ⟨_, pp32⟩
    · exact ⟨_, pp33⟩
    · exact ⟨_, pp34⟩
    · exact ⟨_, pp35⟩
    · exact ⟨_, pp36⟩
  · rcases (show k = 0 ∨ k = 1 ∨ k = 2 ∨ k = 3 ∨ k = 4 ∨ k = 5 ∨ k = 6 by omega) with rfl | rfl | rfl | rfl | rfl | rfl | rfl
    · exact ⟨_, pp40⟩
    · exact ⟨_, pp41⟩
    · exact ⟨_, pp42⟩
    · exact ⟨_, pp43⟩
    · exact ⟨_, pp44⟩
    · exact ⟨_, pp45⟩
    · exact ⟨_, pp46⟩
  · rcases (show k = 0 ∨ k = 1 by omega) with rfl | rfl
    · exact ⟨_, pp50⟩
    · exact ⟨_, pp51⟩
end K76
set_option maxRecDepth 1000000
namespace K76
open PySem L2 MM
local macro_rules
  | `(tactic| simp_arith only [$xs:simpLemma,*] $[$loc:location]?) => `(tactic| simp (config := {decide := true}) (disch := (first | assumption | decide | omega | (simp only [List.length_cons, List.length_nil, List.length_append]; omega))) only [$xs,*, f_mull, f_mulr, ev_var, ev_ex, agV_e, agE_o, agE_x, oo_v, oo_o, bin_e, bin1_o, bin2_o, bin3_o, un_e, un1_o, un2_o, evs_n, evs_c, evs1_o, evs2_o, oso_n, oso_c, osa_n, osa_c, osa1_o, omap_s, lst_e, lst1_o, lst2_o, tup_e, tup1_o, tup2_o, tup3_s, tup3_n, alls_n, alls_c, alls_l, alls_t, cb_e, cb1_o, cb2_o, call_e, call1_o, call2_o, call3_o, call3_x, take_n, take_v, take_o, tkO_sh, tkO_ol, tkO_ot, tkO_sc, put_n, put_o, put_v, ptO_n, ptO_s, call0_e, call01_o, runF_e, run1_r, run1_n, run1_x, outs_n, outs_t, outs_f, mv_e, mv1_sh, mv1_ol, mv1_ot, mv2_o, mt_e, mt1_sh, mt1_ol, mt1_ot, mC_e, asb_e, asb1_o, asb2_o, ble_b, tru_e, tru1_o, tru2_o, and_e, and1_t, and1_f, or_e, or1_t, or1_f, not_e, not1_o, vand_e, vand1_o, vand2_t, vand2_f, vor_e, vor1_o, vor2_t, vor2_f, vnot_e, vnot1_o, vnot2_o, ife_e, if1_t, if1_f,
  ch_e, ch0_o, ch1_o, ch2_o, ch3_t, ch3_f, ch4_o, cn_e, cn1_o, lk_one, lk_more, lk1_o, lk2_o, lk3_t, lk3_f, seq_e, seq1_n, seq1_r, seq1_b, seq1_c, seq1_x, set_e, set1_o, set1_x, drop_e, drop1_o, drop1_x, ret_e, ret1_o, ret1_x, retN_e, nil_e, brk_e, cnt_e, raise_e, sif_e, sif1_t, sif1_f, aug_e, unp_e, unp1_o, unp2_o, unp3_o, unpE_ol, unpE_ot, unpE_tu, unpE_li, shs_n, shs_c, sal_n, sal_c, par_e, par1_o, par2_o, for_e, for1_o, lp_n, lp1_o, lp2_n, lp2_c, lp2_b, lp2_r, lp2_x, bind_nm, bind_tt, bind_tl, sr_e, sr1_o, sr2_o, sr3_o, inO_n, inO_c, f_sub, f_add, f_lt, f_le, f_gt, f_ge, f_eq, f_ne, f_neg, f_mod, f_div, f_pow, f_abs, f_len, f_lensc, f_lenl, f_lent, f_max2, f_min2, f_isi_ii, f_isi_ib, tr_b, tr_i, idx_e, idx1_o, at_l, at_t, at_ol, at_ot, at_sc, at_0, at_1, at_2, at_3, at_4, at_5, at_n, shE_s, decide_true, decide_false, mth_e, mth1_o, mth2_o, mth3_o, mth4_o, app_e, clr_e, tn0, tn1, tn2, tn3, tn4, tn5, tn6, tn7, tn8, tn9, tn10, tn11, tn12, at_6, at_7, at_8, at_9, at_10, at_11, at_12, while_e, evB_n, evB_s, eb1_o, eb2_o, sl_e, sl0_o, sl1_o, sl2_o, sl3_o, fSl_sh, fSl_ol, sa_e, sa1_v, sa1_o, sa2_o, itU_l, itU_t, fLi_sh, fLi_tu, fLi_ol, f_sum, f_sumo, rev_sh, rev_ol, isi_lst_l, isi_lst_o, isi_tup_t, fEq_nil, fEq_nilo, viewO_shs, shs_len, iU_len, ax_e, axB_o, ax0_o, ax1_o, ax2_o, ax3_o, ax4_o, ax5_o, at_t0, at_t1, at_t2, bind_t3, omap_n, f_addI, par3_e, par30_o, par31_o, mp_e, pmB_l, pmB_t, pmA_o, pm0_l, pm0_t, pm1_o, pm2_o, pm3_o, pm4_o, bor_e, borT_e, borO_o, borB_o, borO_x, borB_x, vwE_n, vwE_c, vw1_n, vw1_s, vw1_sc, vw1_ol, vw1_ot, vO_s, vO_l, vO_t, vOs_n, vOs_c, vcons_o, frz_e, frzO_o, frz2_o, frzO_x, try_e, try1_n, try1_r, try1_x, tryH_s, lkH, clr_r, clr_n, six_e, six0_o, six01_o, pix_e, pix1_o, pix2_o, ixN_l, six1_o, six2_o, bin1_x, bin2_x, un1_x, evs1_x, evs2_x, cb1_x, call1_x, lst1_x, tup1_x, f_maxD, fNe_nilo, eq_t1, eq_t2, eq_t3, eq_t4, eq_i1, eq_i2, eq_i3, eq_i4, viewOs_shs, ne_i1, ne_i2, ne_i3, ne_i4, ne_t1, ne_t2, ne_t3, ne_t4, ne_b, all_tt, isi_bl_b, forV_e, fv0_ol, fv0_sh, nl0_e, nl1_e, nla_o, nlb_o, nlit_s, keO_y, scO_i, nset_e, nst_o, nset0_e, nset1_o, nset2_s, npix_e, ndAt_y, nget_e, ng0_s, nget1_o, ng1_o, nget2_e, ng2_s, nget3_s, ndO_y, f_lenN, f_keysN, srcIt_e, nwO_y, si1_s, f_intb, f_inti, fTup_sh, fTup_ol, mt1_nd, tkO_nd, nix_e, nin_e, srcKy_e, sky_d, sky_f, nixf_e, src2X_e, s2a_o, s2b_s, sqB_l, sqB_u, zipX_ll, zipX_lt, zipX_tl,
  List.map_cons, List.map_nil, List.cons_append, List.nil_append, List.append_nil, List.replicate_succ, List.replicate_zero, List.getElem?_cons_zero, List.getElem?_cons_succ, List.getElem?_nil, List.set_cons_zero, List.set_cons_succ, List.set_nil, List.length_cons, List.length_nil, Option.getD_some, Option.getD_none, Option.bind_some, Option.some.injEq, reduceIte, Bool.not_true, Bool.not_false, intE] $[$loc]?)
theorem p_in (x0 x1 : Option O) (D : List T3) : ∀ (ms : List (List Nat)) (acc : List U) (x4 : Option O), acc.length + ms.length ≤ 1000000 → ∃ y4, lpF (.nm 4) b_paper_1 (ms.map fun m => lT (dm3 m)) [x0, x1, some (.ol (shs acc)), some (.sh (lT D)), x4] = .nx [x0, x1, some (.ol (shs (acc ++ ms.map fun m => eU (D, dm3 m)))), some (.sh (lT D)), y4]
  | [], acc, x4, _ => ⟨x4, by rw [List.map_nil, List.map_nil, List.append_nil]; rfl⟩
  | m :: ms, acc, x4, hl => by
    rw [List.length_cons] at hl
    obtain ⟨y4, ih⟩ := p_in x0 x1 D ms (acc ++ [eU (D, dm3 m)]) (some (.sh (lT (dm3 m)))) (by rw [List.length_append, List.length_singleton]; omega)
    refine ⟨y4, ?_⟩
    have z1 : (shs acc).length < 16777216 := by rw [shs_len]; omega
    have sa : shs acc ++ [.sh (eU (D, dm3 m))] = shs (acc ++ [eU (D, dm3 m)]) := by unfold shs; rw [List.map_append]; rfl
    have B : b_paper_1 [x0, x1, some (.ol (shs acc)), some (.sh (lT D)), some (.sh (lT (dm3 m)))] = .nx [x0, x1, some (.ol (shs (acc ++ [eU (D, dm3 m)]))), some (.sh (lT D)), some (.sh (lT (dm3 m)))] := by
      rw [← sa]
      unfold eU
      generalize hM : dm3 m = M
      generalize hq : b_paper_1 _ = q
      unfold b_paper_1 at hq
      have FL : ∀ ρ, fList [.sh (.list (tUs D))] ρ = .ok (.ol (shs (tUs D))) ρ := fun ρ => rfl
      have VO : viewO (.ot [.ol (shs (tUs D)), .sh (.list (tUs M))]) = some (.tuple [.list (tUs D), .list (tUs M)]) := by
        show (match viewOs [.ol (shs (tUs D)), .sh (.list (tUs M))] with | some us => some (PyData.tuple us) | none => none) = _
        simp only [viewOs, viewO, viewOs_shs, Option.map_some, Option.bind_some]
      unfold lT at *
      simp_arith only [FL, VO, z1] at hq
      exact hq.symm
    show lpF _ _ (lT (dm3 m) :: ms.map fun m => lT (dm3 m)) _ = _
    rw [lp_go (ρ1 := [x0, x1, some (.ol (shs acc)), some (.sh (lT D)), some (.sh (lT (dm3 m)))]) rfl, B, lp2_n, ih, List.append_assoc]
    rfl
theorem esOf_cons (p : List T3 × List (List Nat)) (ps : List (List T3 × List (List Nat))) : esOf (p :: ps) = (p.2.map fun m => (p.1, dm3 m)) ++ esOf ps := by unfold esOf; rw [List.flatMap_cons]
theorem p_out (d k : Int) : ∀ (ps : List (List T3 × List (List Nat))) (acc : List U) (x3 x4 : Option O), (∀ p ∈ ps, MkF d p.1 p.2) → acc.length + (esOf ps).length ≤ 1000000 → ∃ y3 y4, lpF (.nm 3) b_paper_2 (ps.map fun p => lT p.1) [some (.sh (.int d)), some (.sh (.int k)), some (.ol (shs acc)), x3, x4] = .nx [some (.sh (.int d)), some (.sh (.int k)), some (.ol (shs (acc ++ (esOf ps).map eU))), y3, y4]
  | [], acc, x3, x4, _, _ => ⟨x3, x4, by rw [show esOf [] = [] from rfl, List.map_nil, List.map_nil, List.append_nil]; rfl⟩
  | p :: ps, acc, x3, x4, hd, hl => by
    rw [esOf_cons, List.length_append, List.length_map] at hl
    obtain ⟨z4, I⟩ := p_in (some (.sh (.int d))) (some (.sh (.int k))) p.1 p.2 acc x4 (by omega)
    obtain ⟨y3, y4, ih⟩ := p_out d k ps (acc ++ p.2.map fun m => eU (p.1, dm3 m)) (some (.sh (lT p.1))) z4 (fun q hq => hd q (List.mem_cons_of_mem _ hq)) (by rw [List.length_append, List.length_map]; omega)
    refine ⟨y3, y4, ?_⟩
    have MF := hd p List.mem_cons_self
    unfold MkF at MF
    have B : b_paper_2 [some (.sh (.int d)), some (.sh (.int k)), some (.ol (shs acc)), some (.sh (lT p.1)), x4] = .nx [some (.sh (.int d)), some (.sh (.int k)), some (.ol (shs (acc ++ p.2.map fun m => eU (p.1, dm3 m)))), some (.sh (lT p.1)), z4] := by
      generalize hq : b_paper_2 _ = q
      unfold b_paper_2 at hq
      generalize lT p.1 = u at *
      simp_arith only [MF, I] at hq
      exact hq.symm
    show lpF _ _ (lT p.1 :: ps.map fun p => lT p.1) _ = _
    rw [lp_go (ρ1 := [some (.sh (.int d)), some (.sh (.int k)), some (.ol (shs acc)), some (.sh (lT p.1)), x4]) rfl, B, lp2_n, ih, List.append_assoc, esOf_cons, List.map_append, List.map_map]
    rfl
theorem paper_ok {d k : Int} {ps : List (List T3 × List (List Nat))} (h : Pp d k ps) (aw : m_asked_wide [.sh (.int d), .sh (.int k)] = .ok (.sh .none) [some (.sh (.int d)), some (.sh (.int k))]) (hc : ¬ (d = 5 ∧ 1 < k)) : m_paper [.sh (.int d), .sh (.int k)] = .ok (.ol (shs ((esOf ps).map eU))) [some (.sh (.int d)), some (.sh (.int k))] := by
  have dr := h.dr
  obtain ⟨y3, y4, L⟩ := p_out d k ps [] none none h.dm (by have := h.ln; simp; omega)
  have L' : lpF (.nm 3) b_paper_2 (ps.map fun p => lT p.1) [some (.sh (.int d)), some (.sh (.int k)), some (.ol []), none, none] = _ := L
  rw [List.nil_append] at L'
  generalize hq : m_paper _ = q
  unfold m_paper b_paper at hq
  by_cases h5 : d = 5
  · have hk : ¬ 1 < k := fun z => hc ⟨h5, z⟩
    subst h5
    simp_arith only [aw, hk, dr, L'] at hq
    exact hq.symm
  · simp_arith only [aw, h5, dr, L'] at hq
    exact hq.symm
theorem pp_rows {d k : Int} {ps : List (List T3 × List (List Nat))} (h : Pp d k ps) : ∀ e ∈ esOf ps, e.1.length ≤ 60 ∧ e.2.length ≤ 60 ∧ 1 ≤ e.2.length := fun e he => by
  have q := List.all_eq_true.mp h.sm e he
  rw [Bool.and_eq_true, Bool.and_eq_true, decide_eq_true_eq, decide_eq_true_eq, decide_eq_true_eq] at q
  omega
end K76
set_option maxRecDepth 1000000
set_option maxHeartbeats 1000000
namespace K76
open PySem L2 MM Snd Bg
local macro_rules
  | `(tactic| simp_arith only [$xs:simpLemma,*] $[$loc:location]?) => `(tactic| simp (config := {decide := true}) (disch := (first | assumption | decide | omega | (simp only [List.length_cons, List.length_nil, List.length_append]; omega))) only [$xs,*, f_mull, f_mulr, ev_var, ev_ex, agV_e, agE_o, agE_x, oo_v, oo_o, bin_e, bin1_o, bin2_o, bin3_o, un_e, un1_o, un2_o, evs_n, evs_c, evs1_o, evs2_o, oso_n, oso_c, osa_n, osa_c, osa1_o, omap_s, lst_e, lst1_o, lst2_o, tup_e, tup1_o, tup2_o, tup3_s, tup3_n, alls_n, alls_c, alls_l, alls_t, cb_e, cb1_o, cb2_o, call_e, call1_o, call2_o, call3_o, call3_x, take_n, take_v, take_o, tkO_sh, tkO_ol, tkO_ot, tkO_sc, put_n, put_o, put_v, ptO_n, ptO_s, call0_e, call01_o, runF_e, run1_r, run1_n, run1_x, outs_n, outs_t, outs_f, mv_e, mv1_sh, mv1_ol, mv1_ot, mv2_o, mt_e, mt1_sh, mt1_ol, mt1_ot, mC_e, asb_e, asb1_o, asb2_o, ble_b, tru_e, tru1_o, tru2_o, and_e, and1_t, and1_f, or_e, or1_t, or1_f, not_e, not1_o, vand_e, vand1_o, vand2_t, vand2_f, vor_e, vor1_o, vor2_t, vor2_f, vnot_e, vnot1_o, vnot2_o, ife_e, if1_t, if1_f,
  ch_e, ch0_o, ch1_o, ch2_o, ch3_t, ch3_f, ch4_o, cn_e, cn1_o, lk_one, lk_more, lk1_o, lk2_o, lk3_t, lk3_f, seq_e, seq1_n, seq1_r, seq1_b, seq1_c, seq1_x, set_e, set1_o, set1_x, drop_e, drop1_o, drop1_x, ret_e, ret1_o, ret1_x, retN_e, nil_e, brk_e, cnt_e, raise_e, sif_e, sif1_t, sif1_f, aug_e, unp_e, unp1_o, unp2_o, unp3_o, unpE_ol, unpE_ot, unpE_tu, unpE_li, shs_n, shs_c, sal_n, sal_c, par_e, par1_o, par2_o, for_e, for1_o, lp_n, lp1_o, lp2_n, lp2_c, lp2_b, lp2_r, lp2_x, bind_nm, bind_tt, bind_tl, sr_e, sr1_o, sr2_o, sr3_o, inO_n, inO_c, f_sub, f_add, f_lt, f_le, f_gt, f_ge, f_eq, f_ne, f_neg, f_mod, f_div, f_pow, f_abs, f_len, f_lensc, f_lenl, f_lent, f_max2, f_min2, f_isi_ii, f_isi_ib, tr_b, tr_i, idx_e, idx1_o, at_l, at_t, at_ol, at_ot, at_sc, at_0, at_1, at_2, at_3, at_4, at_5, at_n, shE_s, decide_true, decide_false, mth_e, mth1_o, mth2_o, mth3_o, mth4_o, app_e, clr_e, tn0, tn1, tn2, tn3, tn4, tn5, tn6, tn7, tn8, tn9, tn10, tn11, tn12, at_6, at_7, at_8, at_9, at_10, at_11, at_12, while_e, evB_n, evB_s, eb1_o, eb2_o, sl_e, sl0_o, sl1_o, sl2_o, sl3_o, fSl_sh, fSl_ol, sa_e, sa1_v, sa1_o, sa2_o, itU_l, itU_t, fLi_sh, fLi_tu, fLi_ol, f_sum, f_sumo, rev_sh, rev_ol, isi_lst_l, isi_lst_o, isi_tup_t, fEq_nil, fEq_nilo, viewO_shs, shs_len, iU_len, ax_e, axB_o, ax0_o, ax1_o, ax2_o, ax3_o, ax4_o, ax5_o, at_t0, at_t1, at_t2, bind_t3, omap_n, f_addI, par3_e, par30_o, par31_o, mp_e, pmB_l, pmB_t, pmA_o, pm0_l, pm0_t, pm1_o, pm2_o, pm3_o, pm4_o, bor_e, borT_e, borO_o, borB_o, borO_x, borB_x, vwE_n, vwE_c, vw1_n, vw1_s, vw1_sc, vw1_ol, vw1_ot, vO_s, vO_l, vO_t, vOs_n, vOs_c, vcons_o, frz_e, frzO_o, frz2_o, frzO_x, try_e, try1_n, try1_r, try1_x, tryH_s, lkH, clr_r, clr_n, six_e, six0_o, six01_o, pix_e, pix1_o, pix2_o, ixN_l, six1_o, six2_o, bin1_x, bin2_x, un1_x, evs1_x, evs2_x, cb1_x, call1_x, lst1_x, tup1_x, f_maxD, fNe_nilo, eq_t1, eq_t2, eq_t3, eq_t4, eq_i1, eq_i2, eq_i3, eq_i4, viewOs_shs, ne_i1, ne_i2, ne_i3, ne_i4, ne_t1, ne_t2, ne_t3, ne_t4, ne_b, all_tt, isi_bl_b, forV_e, fv0_ol, fv0_sh, nl0_e, nl1_e, nla_o, nlb_o, nlit_s, keO_y, scO_i, nset_e, nst_o, nset0_e, nset1_o, nset2_s, npix_e, ndAt_y, nget_e, ng0_s, nget1_o, ng1_o, nget2_e, ng2_s, nget3_s, ndO_y, f_lenN, f_keysN, srcIt_e, nwO_y, si1_s, f_intb, f_inti, fTup_sh, fTup_ol, mt1_nd, tkO_nd, nix_e, nin_e, srcKy_e, sky_d, sky_f, nixf_e, src2X_e, s2a_o, s2b_s, sqB_l, sqB_u, zipX_ll, zipX_lt, zipX_tl,
  List.map_cons, List.map_nil, List.cons_append, List.nil_append, List.append_nil, List.replicate_succ, List.replicate_zero, List.getElem?_cons_zero, List.getElem?_cons_succ, List.getElem?_nil, List.set_cons_zero, List.set_cons_succ, List.set_nil, List.length_cons, List.length_nil, Option.getD_some, Option.getD_none, Option.bind_some, Option.some.injEq, reduceIte, Bool.not_true, Bool.not_false, intE] $[$loc]?)
def tailS : MS := (sOpen 3 4 5 6
  (bStep (sSet 7 (mCall m__law_digit [(.var 0), (.ex (mC (.int 7)))]))
  (bStep (sSet 8 (mCall m__law_digit [(.var 0), (.ex (mCB (f1 lenO) [(.var 6)]))]))
  (bStep (sSet 9 (mCall m__law_digit [(.var 0), (.ex (mCB (f1 lenO) [(.var 6)]))]))
  (bEnd ways
  (sRet (mTake 3)))))))
theorem b_spoilt_eq : b__law_spoilt =
  (sSeq (sSet 3 (mLc (.nm 11) [11] (srcA (.ex (mVar 1))) bYes (mTup [(.ex (mCB fList [(.ex (mBin fIdx (.var 11) (.ex (mC (.int 0)))))])), (.ex (mCB fList [(.ex (mBin fIdx (.var 11) (.ex (mC (.int 1)))))]))])))
  (sSeq (sIf (asB (mBin fEq (.var 3) (.ex (mLst []))))
  (sRet (mLst [(.ex (mFrz (mTup [(.ex (mLst [])), (.ex (mLst []))])))]))
  sNil)
  (sSeq (sSet 4 (mCall m__law_digit [(.var 0), (.ex (mCB (f1 lenO) [(.var 3)]))]))
  tailS))) := rfl
theorem tail_ok (a b d : Int) (x1 : Option O) (es : List En) (j : Nat) (hj : j < es.length) (ha : 0 ≤ a) (hb : ∀ f ∈ es, f.1.length ≤ 60 ∧ f.2.length ≤ 60 ∧ 1 ≤ f.2.length) (hl : es.length ≤ 100) :
    ∃ (a' b' : Int) (es' : List En) (y4 y5 y6 y7 y8 y9 y10 y11 : Option O), (∀ f ∈ es', Bd f) ∧ es'.length ≤ 200 ∧
      tailS [some (bg a b), x1, some (.sh (.int d)), some (.ol (es.map eF)), some (.sh (.int (j : Nat))), none, none, none, none, none, none, none] = .rt (.ol (es'.map eF)) [some (bg a' b'), x1, some (.sh (.int d)), none, y4, y5, y6, y7, y8, y9, y10, y11] := by
  have g : es[j]? = some es[j] := List.getElem?_eq_getElem hj
  have be := hb _ (List.getElem_mem hj)
  generalize he : es[j] = e at *
  obtain ⟨r7, a1, b1, p1, q1, g1, e1⟩ := digit_ok a b 7 ha (by decide) (by decide)
  obtain ⟨r8, a2, b2, p2, q2, g2, e2⟩ := digit_ok a1 b1 ((e.2.length : Nat)) g1 (by omega) (lg64 (by omega))
  obtain ⟨r9, a3, b3, p3, q3, g3, e3⟩ := digit_ok a2 b2 ((e.2.length : Nat)) g2 (by omega) (lg64 (by omega))
  obtain ⟨s, rfl⟩ := Int.eq_ofNat_of_zero_le p2
  obtain ⟨o, rfl⟩ := Int.eq_ofNat_of_zero_le p3
  obtain ⟨a4, b4, es', y4, y5, y6, y7, y8, y9, y10, y11, h1, h2, W⟩ := ways_ok a3 b3 d x1 es j e g r7 s o g3 p1 q1 (by omega) (by omega) (fun f hf => ⟨(hb f hf).1, (hb f hf).2.1⟩) hl
  refine ⟨a4, b4, es', y4, y5, y6, y7, y8, y9, y10, y11, h1, h2, ?_⟩
  have LM : (shs (tUs e.2)).length = e.2.length := by rw [shs_len, tUs_len]
  have TL : (tUs e.2).length = e.2.length := tUs_len
  have ge : (es.map eF)[j]? = some (.ot [.ol (shs (tUs e.1)), .ol (shs (tUs e.2))]) := by rw [List.getElem?_map, g]; rfl
  have i : ixN (es.map eF).length ((j : Nat) : Int) = some j := ix_nat (by rw [List.length_map]; exact hj)
  have OP : ∀ n : BS, sOpen 3 4 5 6 n [some (bg a b), x1, some (.sh (.int d)), some (.ol (es.map eF)), some (.sh (.int (j : Nat))), none, none, none, none, none, none, none] = n (es.map eF) j [some (bg a b), x1, some (.sh (.int d)), none, some (.sh (.int (j : Nat))), some (to e.1), some (to e.2), none, none, none, none, none] := fun n => by
    unfold sOpen
    rw [if_pos ⟨by simp, by simp⟩]
    show (match ixN (es.map eF).length ((j : Nat) : Int) with
      | some j => match (es.map eF)[j]? with
        | some (.ot [.ol xs, .ol ys]) => n (es.map eF) j _
        | _ => .bad
      | none => .bad) = _
    rw [i]
    simp only
    rw [ge]
    rfl
  unfold tailS
  rw [OP, bst (ρ1 := [some (bg a1 b1), x1, some (.sh (.int d)), none, some (.sh (.int (j : Nat))), some (to e.1), some (to e.2), some (.sh (.int r7)), none, none, none, none]) (by simp_arith only [e1]),
    bst (ρ1 := [some (bg a2 b2), x1, some (.sh (.int d)), none, some (.sh (.int (j : Nat))), some (to e.1), some (to e.2), some (.sh (.int r7)), some (.sh (.int (s : Nat))), none, none, none]) (by unfold to; simp_arith only [LM, TL, e2]),
    bst (ρ1 := [some (bg a3 b3), x1, some (.sh (.int d)), none, some (.sh (.int (j : Nat))), some (to e.1), some (to e.2), some (.sh (.int r7)), some (.sh (.int (s : Nat))), some (.sh (.int (o : Nat))), none, none]) (by unfold to; simp_arith only [LM, TL, e3])]
  unfold bEnd
  rw [W]
  rfl
theorem sp_lc (x0 x2 : Option O) (es : List En) (hl : es.length ≤ 1000) : mLc (.nm 11) [11] (srcA (.ex (mVar 1))) bYes (mTup [(.ex (mCB fList [(.ex (mBin fIdx (.var 11) (.ex (mC (.int 0)))))])), (.ex (mCB fList [(.ex (mBin fIdx (.var 11) (.ex (mC (.int 1)))))]))]) [x0, some (.sh (.list (es.map eU))), x2, none, none, none, none, none, none, none, none, none] =
    .ok (.ol (es.map eF)) [x0, some (.sh (.list (es.map eU))), x2, none, none, none, none, none, none, none, none, none] :=
  lc_O (ρ1 := [x0, some (.sh (.list (es.map eU))), x2, none, none, none, none, none, none, none, none, none]) (ρw := [x0, some (.sh (.list (es.map eU))), x2, none, none, none, none, none, none, none, none, none]) (l := es) eU eF rfl (by omega) rfl (fun e he => by
    refine ⟨_, rfl, [x0, some (.sh (.list (es.map eU))), x2, none, none, none, none, none, none, none, none, some (.sh (eU e))], ?_, rfl⟩
    generalize es.map eU = us at *
    have FL : ∀ (ts : List T3) ρ, fList [.sh (.list (tUs ts))] ρ = .ok (.ol (shs (tUs ts))) ρ := fun ts ρ => rfl
    unfold eU eF
    obtain ⟨x, y⟩ := e
    simp_arith only [FL])
theorem spoilt_ok (a b d : Int) (es : List En) (ha : 0 ≤ a) (hb : ∀ f ∈ es, f.1.length ≤ 60 ∧ f.2.length ≤ 60 ∧ 1 ≤ f.2.length) (hl : es.length ≤ 100) :
    ∃ (a' b' : Int) (es' : List En) (x : O), RowsO es' x ∧ (∀ f ∈ es', Bd f) ∧ es'.length ≤ 200 ∧ m__law_spoilt [bg a b, .sh (.list (es.map eU)), .sh (.int d)] = .ok x [some (bg a' b'), some (.sh (.list (es.map eU))), some (.sh (.int d))] := by
  have LC := sp_lc (some (bg a b)) (some (.sh (.int d))) es (by omega)
  have v1 : viewO (.ol (es.map eF)) = some (.list (es.map eU)) := by simp only [viewO, viewOs_F]
  have v2 : viewO (.ol []) = some (.list []) := rfl
  by_cases c : es = []
  · subst c
    refine ⟨a, b, [([], [])], .ol [.sh (.tuple [.list [], .list []])], .inr ⟨_, rfl, rfl⟩, fun f hf => ?_, by simp, ?_⟩
    · rw [List.mem_singleton.mp hf]; exact ⟨by simp, by simp⟩
    · have E : ∀ ρ, fEq (.ol ([] : List O)) (.ol []) ρ = .ok (.sh (.bool true)) ρ := fun _ => rfl
      rw [List.map_nil, List.map_nil] at LC
      rw [List.map_nil]
      generalize hq : m__law_spoilt _ = q
      unfold m__law_spoilt at hq
      rw [b_spoilt_eq] at hq
      have VO : viewO (.ot [.ol [], .ol []]) = some (.tuple [.list [], .list []]) := rfl
      simp_arith only [LC, E, frz_e, frzO, VO] at hq
      exact hq.symm
  · have ne : 0 < es.length := by
      rcases es with _ | ⟨e, es⟩
      · exact absurd rfl c
      · simp
    have eq : eqU (.list (es.map eU)) (.list []) = some false := by
      show (if (PyData.list (es.map eU)).depth ≤ 60 ∨ (PyData.list []).depth ≤ 60 then some (PyData.eqv (.list (es.map eU)) (.list [])) else none) = _
      rw [if_pos (.inr (by simp [PyData.depth, PyData.depthAll]))]
      rcases es with _ | ⟨e, es⟩
      · exact absurd rfl c
      · simp [PyData.eqv, PyData.eqvAll]
    have E : ∀ ρ, fEq (.ol (es.map eF)) (.ol []) ρ = .ok (.sh (.bool false)) ρ := fun ρ => by
      simp only [fEq, v1, v2, eq]
    obtain ⟨r, a1, b1, p1, q1, g1, e1⟩ := digit_ok a b ((es.length : Nat)) ha (by omega) (lg64 (by omega))
    obtain ⟨j, rfl⟩ := Int.eq_ofNat_of_zero_le p1
    obtain ⟨a', b', es', y4, y5, y6, y7, y8, y9, y10, y11, h1, h2, T⟩ := tail_ok a1 b1 d (some (.sh (.list (es.map eU)))) es j (by omega) g1 hb hl
    have LN : ∀ ρ, f1 lenO [.ol (es.map eF)] ρ = .ok (.sh (.int ((es.length : Nat)))) ρ := fun ρ => by
      show MM.R.ok (O.sh (PyData.int (((es.map eF).length : Nat) : Int))) ρ = _
      rw [List.length_map]
    refine ⟨a', b', es', .ol (es'.map eF), .inr ⟨_, rfl, viewOs_F es'⟩, h1, h2, ?_⟩
    generalize hq : m__law_spoilt _ = q
    unfold m__law_spoilt at hq
    rw [b_spoilt_eq] at hq
    generalize es.map eU = us at *
    generalize es.map eF = os at *
    simp_arith only [LC, E, LN, e1, T] at hq
    exact hq.symm
theorem bd_en {es : List En} (h : ∀ f ∈ es, Bd f) : ∀ e ∈ es, En1 e := fun e he => ⟨by have := (h e he).1; omega, by have := (h e he).2; omega⟩
theorem turn_ok (ns : List Int) (x1 x4 x7 : Option O) (d k : Int) (es : List En) (n : Nat) (h1 : 1 ≤ d) (h5 : d ≤ 5) (k0 : 0 ≤ k) (k6 : k ≤ 6) (hk : d = 5 → k ≤ 3) (hb : ∀ f ∈ es, f.1.length ≤ 60 ∧ f.2.length ≤ 60 ∧ 1 ≤ f.2.length) (hl : es.length ≤ 100) :
    ∃ y7, b_law_1 [some (.sc (ns.map PyData.int)), x1, some (.sh (.int d)), some (.sh (.int k)), x4, some (.sh (.list (es.map eU))), some (.sh (.int (n : Nat))), x7] = .nx [some (.sc (ns.map PyData.int)), x1, some (.sh (.int d)), some (.sh (.int k)), x4, some (.sh (.list (es.map eU))), some (.sh (.int (n : Nat))), y7] := by
  obtain ⟨c, hc⟩ := cell_ok ns (1 + n)
  rw [Int.natCast_add, Int.natCast_one] at hc
  obtain ⟨a, b, ha, B⟩ := bag_ok c (2 + (n : Nat))
  obtain ⟨a', b', es', x, hx, h2, h3, S⟩ := spoilt_ok a b d es ha hb hl
  have A := law_asked_ok d k es' x hx h1 h5 k0 k6 hk (by omega) (bd_en h2)
  refine ⟨some (.sh (.list (es'.map eU))), ?_⟩
  generalize hq : b_law_1 _ = q
  unfold b_law_1 at hq
  generalize es.map eU = us at *
  generalize ns.map PyData.int = nn at *
  rcases hx with rfl | ⟨os, rfl, _⟩
  · simp_arith only [hc, B, S, A] at hq
    exact hq.symm
  · simp_arith only [hc, B, S, A] at hq
    exact hq.symm
theorem law_ok (ns : List Int) (hl : ns.length ≤ 63) (hb : ∀ z ∈ ns, Builtin.Int.intBits z ≤ 1048576) : ∃ outs, m_law [.sc (ns.map PyData.int)] = .ok (.sh (.bool true)) outs := by
  obtain ⟨c, hc⟩ := cell_ok ns 0
  have hc' : m__law_cell_at [.sc (ns.map PyData.int), .sh (.int 0)] = .ok (.sh (.int c)) [some (.sc (ns.map PyData.int)), some (.sh (.int 0))] := hc
  obtain ⟨a, b, ha, B⟩ := bag_ok c 1
  obtain ⟨r, a1, b1, p1, q1, g1, e1⟩ := digit_ok a b 5 ha (by decide) (by decide)
  have M : ∃ m : Int, 0 < m ∧ m ≤ 7 ∧ (1 + r = 5 → m = 2) ∧ ∀ ρ, fIdx (.ol [.sh (.int 7), .sh (.int 2)]) (.sh (.int ((1 + r) / 5))) ρ = .ok (.sh (.int m)) ρ := by
    by_cases c : r = 4
    · subst c; exact ⟨2, by decide, by decide, fun _ => rfl, fun _ => rfl⟩
    · refine ⟨7, by decide, by decide, fun z => absurd z (by omega), fun ρ => ?_⟩
      rw [show (1 + r) / 5 = 0 by omega]
      rfl
  obtain ⟨m, m0, m7, m5, IX⟩ := M
  obtain ⟨k, a2, b2, p2, q2, g2, e2⟩ := digit_ok a1 b1 m g1 m0 (lg64 (by omega))
  have hk : 1 + r = 5 → k ≤ 1 := fun z => by have := m5 z; omega
  obtain ⟨ps, P⟩ := pp_all (d := 1 + r) (k := k) (by omega) (by omega) p2 (by omega) hk
  have AW := wide_ok (1 + r) k (by omega) (by omega) p2 (by omega) (fun z => by have := hk z; omega)
  have PA := paper_ok P AW (fun z => by have := hk z.1; omega)
  have PR := pp_rows P
  have PL := P.ln
  generalize esOf ps = es at *
  obtain ⟨a3, b3, fs, g3, hf, hfl, L⟩ := left_ok a2 b2 es g2 PL
  have C40 := cut_lo (fs.map eU) 40
  rw [← List.map_take] at C40
  have c40 : (((40 : Nat) : Int)) = 40 := rfl
  rw [c40] at C40
  have hs : ∀ f ∈ fs.take 40, f.1.length ≤ 60 ∧ f.2.length ≤ 60 ∧ 1 ≤ f.2.length := fun f hf' => PR f (hf f (List.mem_of_mem_take hf'))
  have hsl : (fs.take 40).length ≤ 40 := by rw [List.length_take]; omega
  generalize fs.take 40 = ss at *
  have hbd : ∀ f ∈ ss, Bd f := fun f hf' => ⟨by have := (hs f hf').1; omega, by have := (hs f hf').2.1; omega⟩
  have A1 := law_asked_ok (1 + r) k ss (.ol (shs (ss.map eU))) (.inr ⟨_, rfl, viewOs_shs _⟩) (by omega) (by omega) p2 (by omega) (fun z => by have := hk z; omega) (by omega) (bd_en hbd)
  have A2 := law_asked_ok (1 + r) k ss (.sh (.list (ss.map eU))) (.inl rfl) (by omega) (by omega) p2 (by omega) (fun z => by have := hk z; omega) (by omega) (bd_en hbd)
  have T := fun (x1 x4 x7 : Option O) (n : Nat) => turn_ok ns x1 x4 x7 (1 + r) k ss n (by omega) (by omega) p2 (by omega) (fun z => by have := hk z; omega) hs (by omega)
  have W0 : m_weighed [.sh (.int (1 + r)), .sh (.int k), .ol []] = .ok (.sh (.int 0)) [some (.sh (.int (1 + r))), some (.sh (.int k)), some (.ol [])] := by
    generalize hq : m_weighed _ = q
    unfold m_weighed b_weighed at hq
    have LB : ∀ ρ : Ev, ρ[2]? = some (some (.ol [])) → lpB (.tp [5, 6]) b_weighed_1 2 0 0 ρ = .nx ρ := fun ρ h => by
      unfold lpB
      rw [h]
      rfl
    simp_arith only [AW, LB] at hq
    exact hq.symm
  obtain ⟨z1, T1⟩ := T (some (bg a3 b3)) (some (.sh (.list (es.map eU)))) none 0
  obtain ⟨z2, T2⟩ := T (some (bg a3 b3)) (some (.sh (.list (es.map eU)))) z1 1
  obtain ⟨z3, T3⟩ := T (some (bg a3 b3)) (some (.sh (.list (es.map eU)))) z2 2
  have R3 : rngF [3] = some (rngU 0 3) := rfl
  have LP : lpF (.nm 6) b_law_1 (rngU 0 3) [some (.sc (ns.map PyData.int)), some (bg a3 b3), some (.sh (.int (1 + r))), some (.sh (.int k)), some (.sh (.list (es.map eU))), some (.sh (.list (ss.map eU))), none, none] = .nx [some (.sc (ns.map PyData.int)), some (bg a3 b3), some (.sh (.int (1 + r))), some (.sh (.int k)), some (.sh (.list (es.map eU))), some (.sh (.list (ss.map eU))), some (.sh (.int (2 : Nat))), z3] := by
    show lpF _ _ [.int (0 : Nat), .int (1 : Nat), .int (2 : Nat)] _ = _
    rw [lp_go rfl]
    show lp2 _ _ _ (b_law_1 [some (.sc (ns.map PyData.int)), some (bg a3 b3), some (.sh (.int (1 + r))), some (.sh (.int k)), some (.sh (.list (es.map eU))), some (.sh (.list (ss.map eU))), some (.sh (.int (0 : Nat))), none]) = _
    rw [T1, lp2_n, lp_go rfl]
    show lp2 _ _ _ (b_law_1 [some (.sc (ns.map PyData.int)), some (bg a3 b3), some (.sh (.int (1 + r))), some (.sh (.int k)), some (.sh (.list (es.map eU))), some (.sh (.list (ss.map eU))), some (.sh (.int (1 : Nat))), z1]) = _
    rw [T2, lp2_n, lp_go rfl]
    show lp2 _ _ _ (b_law_1 [some (.sc (ns.map PyData.int)), some (bg a3 b3), some (.sh (.int (1 + r))), some (.sh (.int k)), some (.sh (.list (es.map eU))), some (.sh (.list (ss.map eU))), some (.sh (.int (2 : Nat))), z2]) = _
    rw [T3, lp2_n]
    rfl
  generalize hq : m_law _ = q
  unfold m_law b_law at hq
  generalize es.map eU = us at *
  generalize ss.map eU = vs at *
  generalize fs.map eU = ws at *
  generalize ns.map PyData.int = nn at *
  simp_arith only [hc', B, e1, IX, e2, PA, frz_e, frzO, viewO_shs, L, C40, A1, R3, LP, A2, W0] at hq
  exact ⟨_, hq.symm⟩
end K76
open PySem PySem.W PySem.Calls PyProof.Rows
theorem PySem.Challenge.cw_floorcurves_k76_spoilt_papers_holds : PySem.Challenge.rw_floorcurves_k76_spoilt_papers.Holds := by
  w_on; o_law
  refine HandSHeadRun.head_any (r := OpenLaw.row PySem.Challenge.rw_floorcurves_k76_spoilt_papers) (q := view (OpenLaw.row PySem.Challenge.rw_floorcurves_k76_spoilt_papers).prog [41]) (H := K76.hk) (ob := K76.ob) (M := 2000) (loose := [(Str.ofString "CurveError"), (Str.ofString "NoBound"), (Str.ofString "NoDrawing"), (Str.ofString "is_whole"), (Str.ofString "asked_degree"), (Str.ofString "asked_crossings"), (Str.ofString "asked_wide"), (Str.ofString "ends_at"), (Str.ofString "sound"), (Str.ofString "lifts_from"), (Str.ofString "weighing"), (Str.ofString "rows_from"), (Str.ofString "all_sound"), (Str.ofString "drawings"), (Str.ofString "worth"), (Str.ofString "asked_sound"), (Str.ofString "marks_between"), (Str.ofString "without_one"), (Str.ofString "next_marks"), (Str.ofString "markings"), (Str.ofString "paper"), (Str.ofString "is_drawing"), (Str.ofString "is_marking"), (Str.ofString "weighed"), (Str.ofString "_law_cell_at"), (Str.ofString "_law_bag"), (Str.ofString "_law_mixed"), (Str.ofString "_law_digit"), (Str.ofString "_law_marks"), (Str.ofString "_law_is_right"), (Str.ofString "_law_due"), (Str.ofString "_law_left"), (Str.ofString "_law_odd_row"), (Str.ofString "_law_spoilt"), (Str.ofString "_law_asked")]) (d := HandSHeadRun.topDef (OpenLaw.row PySem.Challenge.rw_floorcurves_k76_spoilt_papers).prog 41) (kwd := []) K76.ob_eq
    (by kernel_rfl) (fun s => by kernel_rfl) K76.run (by kernel_rfl) (by kernel_rfl) (by kernel_rfl) (by rfl) (by first | assumption | decide +kernel) (by decide +kernel) ⟨rfl, rfl, rfl, rfl, rfl, by decide +kernel⟩ ?hw ?hc
  case hw => w_witness2
  case hc =>
    refine MM.walk_end (l := PySem.Challenge.rw_floorcurves_k76_spoilt_papers) (n := 63) (k := 8) (x := "_law_script") (mf := K76.m_law) rfl (by decide) (by kernel_rfl) ⟨rfl, by decide, by decide⟩ ?F K76.law_ok
    intro w mg fa h Y G hmg0
    obtain ⟨K, KX, c, cp⟩ := Y
    have hmg : mg ("law" : PySem.Str) = some (.ref fa) := by
      have e : (HandSHeadRun.topDef (OpenLaw.row PySem.Challenge.rw_floorcurves_k76_spoilt_papers).prog 41).name = ("law" : PySem.Str) := by kernel_rfl
      rw [← e]
      exact hmg0
    exact MM.law_fact KX G hmg (K76.facts KX G c cp).s_law (fun fd F s u => by obtain ⟨oc, od, kV, doc, pm, an, cdv, ct, osl, rfl, lk, hcd⟩ := F.ex; exact .of_eq rfl) fun base hb hG => K76.ok_law (K76.facts KX G c cp)
