import PyProof.Rows.All
import Wide.All
import OpenK.AllK
import Wide.FinOn
import HandS.ForMost
import HandS.Wide
import HandS.IsInst
import HandS.Deep
import HandS.EndBits
import KE.KDictKeyed
import HandS.Style
import HandS.Defaults
import HandS.Flow
import KE.DataMinMax
import KE.DataCmp
import KE.SortData
import KE.KDictPairs
import PyProof.ConsumeS
import PyProof.SeqWrite
import PyProof.SumAny
import HandS.SortOrd
import KE.LtData
import KE.LtSeq
import KE.KSortTup
import KE.KDictSum
import KE.KDictCopyH
import HandS.Keys
import HandS.Iter
import KE.KDictZip
import HandS.More
import HandS.Exc
import HandS.ExcInit
import HandS.ExcField
import HandS.ExcIs
import HandS.ExcOwn
import HandS.CallSlots
import HandS.WordsExc
import HandS.ClsMeth
import HandS.HeadHook1
import HandS.HeadHook4
import KE.KExcIs
import HandS.TryMany
import KE.KStateDown
import HandS.Head0
import HandS.Head1
import HandS.Head2
import HandS.HeadEnd
import HandS.HeadHook2
import KE.KRevSl
import PySem.Challenge.RW_dotmoor_k01_parts_in_lowest_terms
set_option Elab.async false
set_option linter.all false
set_option maxRecDepth 100000
set_option maxHeartbeats 4000000
/-! Data over the hand layer: what a def does, told of plain data (no heap). -/
namespace DV
open PySem PySem.Spec PyProof.Rows L2

abbrev St := L2.St
/-- plain data; bag: the law's own draws; scr: the law's script -/
inductive D where
  | non | bl (b : Bool) | int (i : Int) | str (x : Str)
  | tup (xs : List D) | lst (xs : List D) | dic (kvs : List (D × D)) | bag | scr

def Mark : HO := .tbl #[]
def Mark2 : HO := .tbl #[.none]
/-- a list of ints of which nothing more is told -/
def Scp (H : Hp) (a : Addr) : Prop := ∃ ns : List Int, H a = some (.lst (ns.map V.int)) ∧ ns.length ≤ 1000
/-- the bag at b: the script's copy stands in F, marked -/
def Bag (F H : Hp) (b : Addr) : Prop := ∃ (a : Addr) (p : Nat) (big salt : Int), F a = some Mark2 ∧ H b = some (.lst [.ref a, .int p, .int big, .int salt])
def Stands (F H : Hp) (a : Addr) : HO → Prop
  | .tbl ps => if ps.size = 0 then Bag F H a else Scp H a
  | o => H a = some o
/-- what is frozen stands in the heap -/
def Sub (F H : Hp) : Prop := ∀ a o, F a = some o → Stands F H a o
theorem Stands.bag {F H : Hp} {a : Addr} (h : Stands F H a Mark) : Bag F H a := by
  have h' : (if (#[] : Array Value).size = 0 then Bag F H a else Scp H a) := h
  rwa [if_pos (show (#[] : Array Value).size = 0 from rfl)] at h'
theorem Stands.scp {F H : Hp} {a : Addr} (h : Stands F H a Mark2) : Scp H a := by
  have h' : (if (#[Value.none] : Array Value).size = 0 then Bag F H a else Scp H a) := h
  rwa [if_neg (by decide)] at h'
theorem Stands.ofBag {F H : Hp} {a : Addr} (h : Bag F H a) : Stands F H a Mark := by
  show (if (#[] : Array Value).size = 0 then Bag F H a else Scp H a)
  rwa [if_pos (show (#[] : Array Value).size = 0 from rfl)]
theorem Stands.ofScp {F H : Hp} {a : Addr} (h : Scp H a) : Stands F H a Mark2 := by
  show (if (#[Value.none] : Array Value).size = 0 then Bag F H a else Scp H a)
  rwa [if_neg (by decide)]
theorem Stands.there {F H : Hp} {a : Addr} {o : HO} (h : Stands F H a o) : ∃ u, H a = some u := by
  cases o with
  | tbl ps =>
    have h' : (if ps.size = 0 then Bag F H a else Scp H a) := h
    split at h'
    · obtain ⟨_, _, _, _, _, e⟩ := h'
      exact ⟨_, e⟩
    · obtain ⟨_, e, _⟩ := h'
      exact ⟨_, e⟩
  | _ => exact ⟨_, h⟩
theorem Sub.none {F H : Hp} (s : Sub F H) {p : Addr} (h : H p = none) : F p = none := by
  cases e : F p with
  | none => rfl
  | some o =>
    obtain ⟨u, q⟩ := (s p o e).there
    rw [h] at q; cases q
/-- the marks of the one stand in the other -/
theorem Stands.monoM {F F' H H' : Hp} {a : Addr} {o : HO} (h : Stands F H a o) (m : ∀ b, F b = some Mark2 → F' b = some Mark2) (k : ∀ u, H a = some u → H' a = some u) : Stands F' H' a o := by
  cases o with
  | tbl ps =>
    have h' : (if ps.size = 0 then Bag F H a else Scp H a) := h
    show (if ps.size = 0 then Bag F' H' a else Scp H' a)
    split at h'
    · rename_i z
      rw [if_pos z]
      obtain ⟨c, p, big, salt, e, e2⟩ := h'
      exact ⟨c, p, big, salt, m _ e, k _ e2⟩
    · rename_i z
      rw [if_neg z]
      obtain ⟨ns, e, l⟩ := h'
      exact ⟨ns, k _ e, l⟩
  | _ => exact k _ h
theorem Stands.mono {F F' H H' : Hp} {a : Addr} {o : HO} (h : Stands F H a o) (m : Same F F') (k : ∀ u, H a = some u → H' a = some u) : Stands F' H' a o := h.monoM (fun b e => m b _ e) k
theorem Sub.lst {F H : Hp} (s : Sub F H) {a : Addr} {xs : List V} (h : F a = some (.lst xs)) : H a = some (.lst xs) := s a _ h
theorem Sub.tup {F H : Hp} (s : Sub F H) {a : Addr} {xs : List V} (h : F a = some (.tup xs)) : H a = some (.tup xs) := s a _ h
theorem Sub.frz {F H : Hp} (s : Sub F H) {a : Addr} {o : Obj} {u : HO} (h : F a = some (.frz o u)) : H a = some (.frz o u) := s a _ h
theorem Sub.seqT {K : PySem.W.Frag} {F H : Hp} (s : Sub F H) {a : Addr} {xs : List V} (h : SqT K F a xs) : SqT K H a xs := by
  rcases h with (h | ⟨o, h⟩) | h
  · exact .inl (.inl (s.tup h))
  · exact .inl (.inr ⟨o, s.frz h⟩)
  · exact .inr h
theorem Sub.seqL {K : PySem.W.Frag} {F H : Hp} (s : Sub F H) {a : Addr} {xs : List V} (h : SqL K F a xs) : SqL K H a xs := by
  rcases h with (h | ⟨o, h⟩) | h
  · exact .inl (.inl (s.lst h))
  · exact .inl (.inr ⟨o, s.frz h⟩)
  · exact .inr h
structure Ext (F H F' H' : Hp) : Prop where
  mono : Same F F'
  keep : ∀ a o, F a = none → H a = some o → H' a = some o ∧ F' a = none
  sub : Sub F' H'
theorem Ext.refl {F H : Hp} (s : Sub F H) : Ext F H F H := ⟨Same.refl F, fun _ _ h e => ⟨e, h⟩, s⟩
theorem Ext.trans {F H F1 H1 F2 H2 : Hp} (a : Ext F H F1 H1) (b : Ext F1 H1 F2 H2) : Ext F H F2 H2 :=
  ⟨a.mono.trans b.mono, fun c o h e => let ⟨e1, h1⟩ := a.keep c o h e; b.keep c o h1 e1, b.sub⟩
/-- a new frozen object -/
theorem Ext.new {F H : Hp} (s : Sub F H) {p : Addr} {o : HO} (h : H p = none) (ho : ∀ ps, o ≠ .tbl ps) : Ext F H (upd F p o) (upd H p o) := by
  have hF := s.none h
  refine ⟨fun b x e => by rw [upd_ne (ne_of_none e hF)]; exact e, fun a x e q => ?_, fun b x e => ?_⟩
  · have : a ≠ p := ne_of_none q h
    rw [upd_ne this, upd_ne this]; exact ⟨q, e⟩
  · by_cases hb : b = p
    · subst hb
      rw [upd_same] at e; cases e
      cases o with
      | tbl ps => exact absurd rfl (ho ps)
      | _ => exact upd_same
    · rw [upd_ne hb] at e
      exact (s b x e).mono (fun c y q => by rw [upd_ne (ne_of_none q hF)]; exact q) fun u q => by rw [upd_ne hb]; exact q
theorem Ext.newL {F H : Hp} (s : Sub F H) {p : Addr} {xs : List V} (h : H p = none) : Ext F H (upd F p (.lst xs)) (upd H p (.lst xs)) := .new s h (fun _ z => nomatch z)
theorem Ext.newT {F H : Hp} (s : Sub F H) {p : Addr} {xs : List V} (h : H p = none) : Ext F H (upd F p (.tup xs)) (upd H p (.tup xs)) := .new s h (fun _ z => nomatch z)
/-- an object that is not frozen is laid or written -/
theorem Ext.own {F H : Hp} (s : Sub F H) {p : Addr} {o : HO} (h : F p = none) : Sub F (upd H p o) := fun b x e =>
  (s b x e).mono (Same.refl F) fun u q => by rw [upd_ne (ne_of_none e h)]; exact q
theorem Ext.newO {F H : Hp} (s : Sub F H) {p : Addr} {o : HO} (h : H p = none) : Ext F H F (upd H p o) :=
  ⟨Same.refl F, fun a x e q => by rw [upd_ne (ne_of_none q h)]; exact ⟨q, e⟩, Ext.own s (s.none h)⟩

/-- what a value is, as data -/
def keyD : Key → D
  | .inl i => .int i
  | .inr x => .str x
/-! keys that are tuples of numbers, nested -/
mutual
def D.nk : D → NestedKey
  | .int i => .num i
  | .tup ds => .tup (D.nks ds)
  | _ => .none
def D.nks : List D → List NestedKey
  | [] => []
  | d :: ds => D.nk d :: D.nks ds
end
mutual
def D.kin : D → Bool
  | .int _ => true
  | .tup ds => D.kins ds
  | _ => false
def D.kins : List D → Bool
  | [] => true
  | d :: ds => D.kin d && D.kins ds
end
/-- a tuple of numbers, nested at most eight deep -/
def D.kok : D → Bool
  | .tup ds => D.kins ds && decide ((NestedKey.tup (D.nks ds)).depth ≤ 8)
  | _ => false
mutual
/-- the hash of a key without texts -/
def hN : NestedKey → Int
  | .none => reduceHash 0xFCA86420
  | .num i => hashInt i
  | .text _ => 0
  | .tup ks => reduceHash (Builtin.Tuple.tupleHashOf (hNs ks))
def hNs : List NestedKey → List Int
  | [] => []
  | k :: ks => hN k :: hNs ks
end
mutual
theorem hN_eq {w : World} : ∀ {d : D}, d.kin = true → hN d.nk = d.nk.hash w
  | .int i, _ => by simp only [D.nk, hN, NestedKey.hash]
  | .tup ds, h => by
    simp only [D.kin] at h
    simp only [D.nk, hN, NestedKey.hash]
    rw [hNs_eq h]
  | .non, h => by simp [D.kin] at h
  | .bl _, h => by simp [D.kin] at h
  | .str _, h => by simp [D.kin] at h
  | .lst _, h => by simp [D.kin] at h
  | .dic _, h => by simp [D.kin] at h
  | .bag, h => by simp [D.kin] at h
  | .scr, h => by simp [D.kin] at h
theorem hNs_eq {w : World} : ∀ {ds : List D}, D.kins ds = true → hNs (D.nks ds) = NestedKey.hashes w (D.nks ds)
  | [], _ => by simp only [D.nks, hNs, NestedKey.hashes]
  | d :: ds, h => by
    simp only [D.kins, Bool.and_eq_true] at h
    simp only [D.nks, hNs, NestedKey.hashes]
    rw [hN_eq h.1, hNs_eq h.2]
end
theorem kok_kin {d : D} (h : d.kok = true) : d.kin = true := by
  cases d <;> first | (simp [D.kok] at h; done) | skip
  simp only [D.kok, Bool.and_eq_true] at h
  simp only [D.kin]
  exact h.1
theorem kok_depth {d : D} (h : d.kok = true) : d.nk.depth ≤ 8 := by
  cases d <;> first | (simp [D.kok] at h; done) | skip
  simp only [D.kok, Bool.and_eq_true, decide_eq_true_eq] at h
  simp only [D.nk]
  exact h.2
/-- a dict whose keys are such tuples: for each entry the key, its object, the value -/
def R3 (r : NestedKey × Addr × V) (x : NestedKey × Addr × Value) : Prop := r.1 = x.1 ∧ r.2.1 = x.2.1 ∧ RelV r.2.2 x.2.2
def DkO (a : Addr) (rows : List (NestedKey × Addr × V)) : HO := .ext fun h => rows.length ≤ sizeLine ∧ (a == sysModules) = false ∧ (rows.map (·.1)).Nodup ∧
  ∃ (xs : List (NestedKey × Addr × Value)) (o : Obj) (es : Array DictEntry) (ep : Nat), Paired R3 rows xs ∧ h.get? a = some o ∧ o.ExactDict ∧ o.data = .dict es ep ∧ es.toList = xs.map fun x => (⟨hN x.1, .ref x.2.1, x.2.2⟩ : DictEntry)
mutual
inductive Rp (K : PySem.W.Frag) (F : Hp) : V → D → Prop
  | non : Rp K F .non .non
  | bl (b : Bool) : Rp K F (.bl b) (.bl b)
  | int (i : Int) : Rp K F (.int i) (.int i)
  | str (x : Str) : Rp K F (.str x) (.str x)
  | tup {a : Addr} {xs : List V} {ds : List D} : SqT K F a xs → RpA K F xs ds → Rp K F (.ref a) (.tup ds)
  | lst {a : Addr} {xs : List V} {ds : List D} : F a = some (.lst xs) → RpA K F xs ds → Rp K F (.ref a) (.lst ds)
  | dic {a : Addr} {o : Obj} {kvs : List (Key × V)} {ds : List (D × D)} : F a = some (.frz o (.dK kvs)) → RpA K F (kvs.map (·.2)) (ds.map (·.2)) → ds.map (·.1) = kvs.map (fun p => keyD p.1) → Rp K F (.ref a) (.dic ds)
  | dicT {a : Addr} {o : Obj} {rows : List (NestedKey × Addr × V)} {ds : List (D × D)} : F a = some (.frz o (DkO a rows)) → ds ≠ [] → rows.map (·.1) = ds.map (fun p => p.1.nk) → (∀ p ∈ ds, p.1.kok = true) → RpA K F (rows.map fun r => V.ref r.2.1) (ds.map (·.1)) → RpA K F (rows.map (·.2.2)) (ds.map (·.2)) → Rp K F (.ref a) (.dic ds)
  | bag {a : Addr} : F a = some Mark → Rp K F (.ref a) .bag
  | scr {a : Addr} {ns : List Int} : SqL K F a (ns.map V.int) → ns.length ≤ 63 → Rp K F (.ref a) .scr
inductive RpA (K : PySem.W.Frag) (F : Hp) : List V → List D → Prop
  | nil : RpA K F [] []
  | cons {v : V} {vs : List V} {d : D} {ds : List D} : Rp K F v d → RpA K F vs ds → RpA K F (v :: vs) (d :: ds)
end
theorem SqT.same {K : PySem.W.Frag} {F F' : Hp} (m : Same F F') {a : Addr} {xs : List V} (h : SqT K F a xs) : SqT K F' a xs := by
  rcases h with (h | ⟨o, h⟩) | h
  · exact .inl (.inl (m _ _ h))
  · exact .inl (.inr ⟨o, m _ _ h⟩)
  · exact .inr h
mutual
theorem Rp.mono {K : PySem.W.Frag} {F F' : Hp} (m : Same F F') : ∀ {v : V} {d : D}, Rp K F v d → Rp K F' v d
  | _, _, .non => .non
  | _, _, .bl b => .bl b
  | _, _, .int b => .int b
  | _, _, .str b => .str b
  | _, _, .tup h r => .tup (SqT.same m h) (RpA.mono m r)
  | _, _, .lst h r => .lst (m _ _ h) (RpA.mono m r)
  | _, _, .dic h r k => .dic (m _ _ h) (RpA.mono m r) k
  | _, _, .dicT h k0 k1 k2 r1 r2 => .dicT (m _ _ h) k0 k1 k2 (RpA.mono m r1) (RpA.mono m r2)
  | _, _, .bag h => .bag (m _ _ h)
  | _, _, .scr h l => .scr (Same.seq m h) l
theorem RpA.mono {K : PySem.W.Frag} {F F' : Hp} (m : Same F F') : ∀ {v : List V} {d : List D}, RpA K F v d → RpA K F' v d
  | _, _, .nil => .nil
  | _, _, .cons h r => .cons (Rp.mono m h) (RpA.mono m r)
end
theorem RpA.length {K : PySem.W.Frag} {F : Hp} : ∀ {v : List V} {d : List D}, RpA K F v d → v.length = d.length
  | _, _, .nil => rfl
  | _, _, .cons _ r => congrArg (· + 1) (RpA.length r)
theorem RpA.get {K : PySem.W.Frag} {F : Hp} : ∀ {vs : List V} {ds : List D} {i : Nat} {d : D}, RpA K F vs ds → ds[i]? = some d → ∃ v, vs[i]? = some v ∧ Rp K F v d
  | _, _, _, _, .nil, e => by simp at e
  | _, _, 0, d, .cons h _, e => by simp at e; subst e; exact ⟨_, rfl, h⟩
  | _, _, i + 1, d, .cons _ r, e => by
    obtain ⟨v, e1, h⟩ := RpA.get (i := i) (d := d) r (by simpa using e)
    exact ⟨v, by simpa using e1, h⟩
theorem RpA.append {K : PySem.W.Frag} {F : Hp} : ∀ {vs ws : List V} {ds es : List D}, RpA K F vs ds → RpA K F ws es → RpA K F (vs ++ ws) (ds ++ es)
  | _, _, _, _, .nil, s => s
  | _, _, _, _, .cons h r, s => .cons h (RpA.append r s)
theorem RpA.take {K : PySem.W.Frag} {F : Hp} : ∀ {vs : List V} {ds : List D} (n : Nat), RpA K F vs ds → RpA K F (vs.take n) (ds.take n)
  | _, _, 0, _ => .nil
  | _, _, _ + 1, .nil => .nil
  | _, _, n + 1, .cons h r => .cons h (RpA.take n r)
theorem RpA.drop {K : PySem.W.Frag} {F : Hp} : ∀ {vs : List V} {ds : List D} (n : Nat), RpA K F vs ds → RpA K F (vs.drop n) (ds.drop n)
  | _, _, 0, r => r
  | _, _, _ + 1, .nil => .nil
  | _, _, n + 1, .cons _ r => RpA.drop n r
theorem RpA.of_get {K : PySem.W.Frag} {F : Hp} : ∀ {vs : List V} {ds : List D}, vs.length = ds.length → (∀ (i : Nat) (v : V) (d : D), vs[i]? = some v → ds[i]? = some d → Rp K F v d) → RpA K F vs ds
  | [], [], _, _ => .nil
  | [], _ :: _, h, _ => by simp at h
  | _ :: _, [], h, _ => by simp at h
  | v :: vs, d :: ds, h, f => .cons (f 0 v d rfl rfl) (RpA.of_get (by simpa using h) fun i v d a b => f (i + 1) v d (by simpa using a) (by simpa using b))

/-- a slot: nothing is known; frozen data; data of which it holds the only reference -/
inductive Slot where
  | un | v (d : D) | own (d : D)
  /-- frozen data, held by this very value -/
  | tg (x : V) (d : D)
def OwnAt (K : PySem.W.Frag) (F H : Hp) (p : Addr) : D → Prop
  | .lst ds => ∃ xs, H p = some (.lst xs) ∧ RpA K F xs ds
  | .dic kvs => (∃ ks : List (Key × V), H p = some (.dK ks) ∧ RpA K F (ks.map (·.2)) (kvs.map (·.2)) ∧ kvs.map (·.1) = ks.map (fun q => keyD q.1)) ∨
    (∃ rows, H p = some (DkO p rows) ∧ kvs ≠ [] ∧ rows.map (·.1) = kvs.map (fun q => q.1.nk) ∧ (∀ q ∈ kvs, q.1.kok = true) ∧ RpA K F (rows.map fun r => V.ref r.2.1) (kvs.map (·.1)) ∧ RpA K F (rows.map (·.2.2)) (kvs.map (·.2)))
  | _ => False
def SlotOk (K : PySem.W.Frag) (F H : Hp) (x : Option V) : Slot → Prop
  | .un => True
  | .v d => ∃ v, x = some v ∧ Rp K F v d
  | .own d => ∃ p, x = some (.ref p) ∧ F p = none ∧ OwnAt K F H p d
  | .tg u d => x = some u ∧ Rp K F u d
structure EnvOk (K : PySem.W.Frag) (F H : Hp) (σ : St) (ρ : List Slot) : Prop where
  len : σ.length = ρ.length
  at_ : ∀ (i : Nat) s, ρ[i]? = some s → ∃ x, σ[i]? = some x ∧ SlotOk K F H x s
  sep : ∀ (i j : Nat) p d e, i ≠ j → σ[i]? = some (some (.ref p)) → ρ[i]? = some (.own d) → σ[j]? = some (some (.ref p)) → ρ[j]? = some (.own e) → False
theorem OwnAt.mono {K : PySem.W.Frag} {F F' H H' : Hp} (m : Same F F') {p : Addr} (k : ∀ u, H p = some u → H' p = some u) : ∀ {d : D}, OwnAt K F H p d → OwnAt K F' H' p d
  | .lst ds, ⟨xs, e, r⟩ => ⟨xs, k _ e, r.mono m⟩
  | .dic kvs, .inl ⟨ks, e, r, q⟩ => .inl ⟨ks, k _ e, r.mono m, q⟩
  | .dic kvs, .inr ⟨rows, e, q0, q1, q2, r1, r2⟩ => .inr ⟨rows, k _ e, q0, q1, q2, r1.mono m, r2.mono m⟩
theorem OwnAt.there {K : PySem.W.Frag} {F H : Hp} {p : Addr} : ∀ {d : D}, OwnAt K F H p d → ∃ u, H p = some u
  | .lst ds, ⟨xs, e, r⟩ => ⟨_, e⟩
  | .dic kvs, .inl ⟨ks, e, r, q⟩ => ⟨_, e⟩
  | .dic kvs, .inr ⟨rows, e, _⟩ => ⟨_, e⟩
theorem SlotOk.mono {K : PySem.W.Frag} {F F' H H' : Hp} (x : Ext F H F' H') {v : Option V} : ∀ {s : Slot}, SlotOk K F H v s → SlotOk K F' H' v s
  | .un, _ => trivial
  | .v d, ⟨v, e, r⟩ => ⟨v, e, r.mono x.mono⟩
  | .own d, ⟨p, e, n, o⟩ => by
    obtain ⟨u, q⟩ := o.there
    exact ⟨p, e, (x.keep p u n q).2, o.mono x.mono fun u q => (x.keep p u n q).1⟩
  | .tg _ _, ⟨e, r⟩ => ⟨e, r.mono x.mono⟩
theorem EnvOk.mono {K : PySem.W.Frag} {F F' H H' : Hp} {σ : St} {ρ : List Slot} (h : EnvOk K F H σ ρ) (x : Ext F H F' H') : EnvOk K F' H' σ ρ :=
  ⟨h.len, fun i s e => let ⟨v, e1, o⟩ := h.at_ i s e; ⟨v, e1, o.mono x⟩, h.sep⟩
theorem EnvOk.set {K : PySem.W.Frag} {F H : Hp} {σ : St} {ρ : List Slot} (h : EnvOk K F H σ ρ) (i : Nat) {v : V} {d : D} (r : Rp K F v d) : EnvOk K F H (σ.set i (some v)) (ρ.set i (.v d)) := by
  refine ⟨by simp [h.len], fun j s e => ?_, fun a b p d' e' hab h1 h2 h3 h4 => ?_⟩
  · by_cases hj : j = i
    · subst hj
      have hl : j < ρ.length := by
        have := (List.getElem?_eq_some_iff.mp e).1
        simpa using this
      rw [List.getElem?_set_self hl] at e
      cases e
      exact ⟨some v, by rw [List.getElem?_set_self (by rw [h.len]; exact hl)], v, rfl, r⟩
    · rw [List.getElem?_set_ne (Ne.symm hj)] at e
      rw [List.getElem?_set_ne (Ne.symm hj)]
      exact h.at_ j s e
  · have na : a ≠ i := fun z => by
      subst z
      have hl : a < ρ.length := by
        have := (List.getElem?_eq_some_iff.mp h2).1
        simpa using this
      rw [List.getElem?_set_self hl] at h2; cases h2
    have nb : b ≠ i := fun z => by
      subst z
      have hl : b < ρ.length := by
        have := (List.getElem?_eq_some_iff.mp h4).1
        simpa using this
      rw [List.getElem?_set_self hl] at h4; cases h4
    rw [List.getElem?_set_ne (Ne.symm na)] at h1 h2
    rw [List.getElem?_set_ne (Ne.symm nb)] at h3 h4
    exact h.sep a b p d' e' hab h1 h2 h3 h4
-- data without lists and dicts
mutual
def D.noLst : D → Bool
  | .lst _ => false
  | .scr => false
  | .tup ds => D.noLsts ds
  | .dic _ => false
  | _ => true
def D.noLsts : List D → Bool
  | [] => true
  | d :: ds => d.noLst && D.noLsts ds
end
def Mutb (o : HO) : Prop := (∃ xs, o = .lst xs) ∨ ∃ ob u, o = .frz ob u ∧ ∀ xs, u ≠ .tup xs
/-- F' is F but for lists and dicts -/
def ButLst (F F' : Hp) : Prop := ∀ a o, F a = some o → F' a = some o ∨ Mutb o
theorem SqT.but {K : PySem.W.Frag} {F F' : Hp} (m : ButLst F F') {a : Addr} {xs : List V} (h : SqT K F a xs) : SqT K F' a xs := by
  rcases h with (h | ⟨o, h⟩) | h
  · exact .inl (.inl ((m _ _ h).resolve_right fun z => z.elim (fun ⟨_, z⟩ => nomatch z) fun ⟨_, _, z, _⟩ => nomatch z))
  · exact .inl (.inr ⟨o, (m _ _ h).resolve_right fun z => z.elim (fun ⟨_, z⟩ => nomatch z) fun ⟨ob, u, z, k⟩ => by cases z; exact k _ rfl⟩)
  · exact .inr h
mutual
theorem Rp.but {K : PySem.W.Frag} {F F' : Hp} (m : ButLst F F') : ∀ {v : V} {d : D}, d.noLst = true → Rp K F v d → Rp K F' v d
  | _, _, _, .non => .non
  | _, _, _, .bl b => .bl b
  | _, _, _, .int b => .int b
  | _, _, _, .str b => .str b
  | _, _, n, .tup h r => .tup (SqT.but m h) (RpA.but m (by simpa only [D.noLst] using n) r)
  | _, _, n, .lst h r => by simp [D.noLst] at n
  | _, _, n, .dic h r k => by simp [D.noLst] at n
  | _, _, n, .dicT .. => by simp [D.noLst] at n
  | _, _, _, .bag h => .bag ((m _ _ h).resolve_right fun z => z.elim (fun ⟨_, z⟩ => nomatch z) fun ⟨_, _, z, _⟩ => nomatch z)
  | _, _, n, .scr h l => by simp [D.noLst] at n
theorem RpA.but {K : PySem.W.Frag} {F F' : Hp} (m : ButLst F F') : ∀ {v : List V} {d : List D}, D.noLsts d = true → RpA K F v d → RpA K F' v d
  | _, _, _, .nil => .nil
  | _, _, n, .cons h r => by
    simp only [D.noLsts, Bool.and_eq_true] at n
    exact .cons (Rp.but m n.1 h) (RpA.but m n.2 r)
end
/-- a list of one's own is given away -/
theorem Ext.adopt {F1 H1 F H : Hp} (x : Ext F1 H1 F H) {p : Addr} {xs : List V} (hp : H1 p = none) (hF : F p = none) (h : H p = some (.lst xs)) : Ext F1 H1 (upd F p (.lst xs)) H := by
  have m : Same F (upd F p (.lst xs)) := fun b o e => by rw [upd_ne (ne_of_none e hF)]; exact e
  refine ⟨x.mono.trans m, fun a o e q => ?_, fun b o e => ?_⟩
  · rw [upd_ne (ne_of_none q hp)]
    exact x.keep a o e q
  · by_cases hb : b = p
    · subst hb
      rw [upd_same] at e; cases e
      exact h
    · rw [upd_ne hb] at e
      exact (x.sub b o e).mono m fun u q => q
end DV

namespace DV
open PySem PySem.Spec PyProof.Rows L2

/-! ### readings over data -/
abbrev DE := List Slot → (D → Prop) → Prop
abbrev DA := List Slot → (List D → Prop) → Prop
abbrev DT := List Slot → (Bool → Prop) → Prop
structure DN where
  nx : List Slot → Prop
  rt : D → Prop
  bk : List Slot → Prop := fun _ => False
  ct : List Slot → Prop := fun _ => False
  /-- a new list of one's own is handed back -/
  ro : D → Prop := rt
abbrev DS := DN → List Slot → Prop
/-- a def's promise over data -/
abbrev DSp := List D → (D → Prop) → Prop

theorem _root_.L2.PE.impD {X : Cx} {e : Expr} {t t' : TE} (h : PE X e t) (i : ∀ σ H Q, t' σ H Q → t σ H Q) : PE X e t' := ⟨fun p s σ H Q I q => h.run p s σ H Q I (i _ _ _ q)⟩
theorem _root_.L2.PT.impD {X : Cx} {e : Expr} {t t' : TT} (h : PT X e t) (i : ∀ σ H Q, t' σ H Q → t σ H Q) : PT X e t' := ⟨fun p s σ H Q I q => h.run p s σ H Q I (i _ _ _ q)⟩
theorem _root_.L2.PW.impD {X : Cx} {e : Expr} {t t' : TT} (h : PW X e t) (i : ∀ σ H Q, t' σ H Q → t σ H Q) : PW X e t' := ⟨fun w p s σ H Q I q => h.run w p s σ H Q I (i _ _ _ q)⟩
theorem _root_.L2.PA.impD {X : Cx} {e : List Expr} {t t' : TA} (h : PA X e t) (i : ∀ σ H Q, t' σ H Q → t σ H Q) : PA X e t' := ⟨fun o p s σ H Q I q => h.run o p s σ H Q I (i _ _ _ q)⟩
theorem _root_.L2.PS.impD {X : Cx} {e : Stmt} {t t' : TS} (h : PS X e t) (i : ∀ N σ H, t' N σ H → t N σ H) : PS X e t' := ⟨fun p s σ H N I q => h.run p s σ H N I (i _ _ _ q)⟩
theorem _root_.L2.PSs.impD {X : Cx} {e : List Stmt} {t t' : TS} (h : PSs X e t) (i : ∀ N σ H, t' N σ H → t N σ H) : PSs X e t' := ⟨fun p s σ H N I q => h.run p s σ H N I (i _ _ _ q)⟩

def lfE (K : PySem.W.Frag) (t : DE) : TE := fun σ H Q => ∃ ρ F Q0, Sub F H ∧ EnvOk K F H σ ρ ∧ t ρ Q0 ∧ ∀ v H' F' d, Ext F H F' H' → Rp K F' v d → Q0 d → Q v H'
def lfA (K : PySem.W.Frag) (t : DA) : TA := fun σ H Q => ∃ ρ F Q0, Sub F H ∧ EnvOk K F H σ ρ ∧ t ρ Q0 ∧ ∀ v H' F' d, Ext F H F' H' → RpA K F' v d → Q0 d → Q v H'
def lfT (K : PySem.W.Frag) (t : DT) : TT := fun σ H Q => ∃ ρ F Q0, Sub F H ∧ EnvOk K F H σ ρ ∧ t ρ Q0 ∧ ∀ b H' F', Ext F H F' H' → Q0 b → Q b H'
abbrev PD (X : Cx) (e : Expr) (t : DE) : Prop := PE X e (lfE X.K t)
abbrev PDA (X : Cx) (es : List Expr) (t : DA) : Prop := PA X es (lfA X.K t)
abbrev PDT (X : Cx) (e : Expr) (t : DT) : Prop := PT X e (lfT X.K t)
abbrev PDW (X : Cx) (e : Expr) (t : DT) : Prop := PW X e (lfT X.K t)

section
variable {X : Cx} {e a b c : Expr} {es rest : List Expr} {t ta tb tc : DE} {tr : DA} {tA tB : DT} {pos : Pos}

/-! ### names, constants -/
def dVar (i : Nat) : DE := fun ρ Q => match ρ[i]? with
  | some (.v d) => Q d
  | some (.tg _ d) => Q d
  | _ => False
def dC (d : D) : DE := fun _ Q => Q d
theorem pd_var {i : Nat} (h : PE X e (tVar i)) : PD X e (dVar i) := h.impD fun σ H Q ⟨ρ, F, Q0, s, en, ht, k⟩ => by
  unfold dVar at ht
  cases hi : ρ[i]? with
  | none => rw [hi] at ht; exact ht.elim
  | some sl =>
    rw [hi] at ht
    cases sl with
    | un => exact ht.elim
    | own d => exact ht.elim
    | v d =>
      obtain ⟨x, e1, v, rfl, r⟩ := en.at_ i _ hi
      exact ⟨v, e1, k v H F d (.refl s) r ht⟩
    | tg u d =>
      obtain ⟨x, e1, rfl, r⟩ := en.at_ i _ hi
      exact ⟨u, e1, k u H F d (.refl s) r ht⟩
theorem pd_c {v : V} {d : D} (h : PE X e (tC v)) (r : ∀ K F, Rp K F v d) : PD X e (dC d) := h.impD fun σ H Q ⟨ρ, F, Q0, s, en, ht, k⟩ => k v H F d (.refl s) (r _ _) ht
theorem pd_int {i : Int} {j pos} : PD X (.Constant (.int i) j pos) (dC (.int i)) := pd_c pe_int fun _ _ => .int _
theorem pd_bl {b : Bool} {j pos} : PD X (.Constant (.bool b) j pos) (dC (.bl b)) := pd_c pe_bl fun _ _ => .bl _
theorem pd_non {j pos} : PD X (.Constant .none j pos) (dC .non) := pd_c pe_non fun _ _ => .non
theorem pd_str {x : Str} {j pos} : PD X (.Constant (.str x) j pos) (dC (.str x)) := pd_c pe_str fun _ _ => .str _
/-- a constant of the module, an int -/
theorem pd_gint {x : Str} {i : Int} {pos} (hm : ∃ tk, X.mg x = some (.int i tk)) (hg : Gl X x := by rfl) (hd : (x == ("__debug__" : Str)) = false := by decide) : PD X (.Name x pos) (dC (.int i)) := let ⟨_, h⟩ := hm; pd_c (pe_glob (v := .int i) hg h ⟨_, rfl⟩ hd) fun _ _ => .int _
theorem pd_gstr {x : Str} {i : Str} {pos} (hm : ∃ tk, X.mg x = some (.str i tk)) (hg : Gl X x := by rfl) (hd : (x == ("__debug__" : Str)) = false := by decide) : PD X (.Name x pos) (dC (.str i)) := let ⟨_, h⟩ := hm; pd_c (pe_glob (v := .str i) hg h ⟨_, rfl⟩ hd) fun _ _ => .str _

/-! ### operators -/
abbrev D2 := D → D → (D → Prop) → Prop
def OpD (K : PySem.W.Frag) (r : R2) (g : D2) : Prop := ∀ (F H : Hp) (x y : V) (dx dy : D) (Q0 : D → Prop) (Q : VK), Sub F H → Rp K F x dx → Rp K F y dy → g dx dy Q0 → (∀ v H' F' d, Ext F H F' H' → Rp K F' v d → Q0 d → Q v H') → r x y H Q
def dOp (g : D2) (ta tb : DE) : DE := fun ρ Q => ta ρ fun x => tb ρ fun y => g x y Q
theorem lf_op {r : R2} {g : D2} {K : PySem.W.Frag} (hg : OpD K r g) : ∀ σ H Q, lfE K (dOp g ta tb) σ H Q → tOp r (lfE K ta) (lfE K tb) σ H Q := fun σ H Q ⟨ρ, F, Q0, s, en, ht, k⟩ =>
  ⟨ρ, F, _, s, en, ht, fun x H1 F1 dx x1 rx q1 => ⟨ρ, F1, _, x1.sub, en.mono x1, q1, fun y H2 F2 dy x2 ry q2 =>
    hg F2 H2 x y dx dy Q0 Q x2.sub (rx.mono x2.mono) ry q2 fun v H' F' d x3 r3 q3 => k v H' F' d ((x1.trans x2).trans x3) r3 q3⟩⟩
theorem pd_op {op : Operator} {r : R2} {g : D2} (ho : OpR X (binaryOp op) r) (hg : OpD X.K r g) (ha : PD X a ta) (hb : PD X b tb) : PD X (.BinOp a op b pos) (dOp g ta tb) := (pe_op ho ha hb).impD (lf_op hg)
theorem pd_cmp {op : CmpOp} {r : R2} {g : D2} (ho : OpR X (compareOp op) r) (hg : OpD X.K r g) (hm : behindInMarks op b = false) (ha : PD X a ta) (hb : PD X b tb) : PD X (.Compare a [op] [b] pos) (dOp g ta tb) := (pe_cmpR ho ha hb hm).impD (lf_op hg)
theorem pd_ix {r : R2} {g : D2} (hr : IxR X r) (hg : OpD X.K r g) (ha : PD X a ta) (hb : PD X b tb) (hs : PlainIx b) : PD X (.Subscript a b pos) (dOp g ta tb) := (pe_ix hr ha hb hs).impD (lf_op hg)
/-- a chain of two comparisons -/
def dChain (g g' : D2) (ta tb tc : DE) : DE := fun ρ Q => ta ρ fun x => tb ρ fun y => g x y fun z => match z with
  | .bl k => if k = true then tc ρ fun w => g' y w Q else Q (.bl false)
  | _ => False
theorem lf_chain {r r' : R2} {g g' : D2} {K : PySem.W.Frag} (hg : OpD K r g) (hg' : OpD K r' g') : ∀ σ H Q, lfE K (dChain g g' ta tb tc) σ H Q → tChain r r' (lfE K ta) (lfE K tb) (lfE K tc) σ H Q := fun σ H Q ⟨ρ, F, Q0, s, en, ht, k⟩ =>
  ⟨ρ, F, _, s, en, ht, fun x H1 F1 dx x1 rx q1 => ⟨ρ, F1, _, x1.sub, en.mono x1, q1, fun y H2 F2 dy x2 ry q2 => by
    refine hg F2 H2 x y dx dy _ _ x2.sub (rx.mono x2.mono) ry q2 fun z H3 F3 dz x3 rz q3 => ?_
    cases dz with
    | bl k0 =>
      cases rz
      refine ⟨k0, rfl, ?_⟩
      have x13 := (x1.trans x2).trans x3
      cases k0 with
      | false => exact iteF (k _ H3 F3 _ x13 (.bl false) q3)
      | true => exact iteT ⟨ρ, F3, _, x3.sub, en.mono x13, q3, fun w H4 F4 dw x4 rw q4 => hg' F4 H4 y w dy dw Q0 Q x4.sub (ry.mono (x3.mono.trans x4.mono)) rw q4 fun v H' F' d x5 r5 q5 => k v H' F' d ((x13.trans x4).trans x5) r5 q5⟩
    | _ => exact q3.elim⟩⟩
theorem pd_chain {op op' : CmpOp} {r r' : R2} {g g' : D2} (ho : OpR X (compareOp op) r) (hg : OpD X.K r g) (ho' : OpR X (compareOp op') r') (hg' : OpD X.K r' g') (ha : PD X a ta) (hb : PD X b tb) (hc : PD X c tc)
    (hm : lastMarks [op, op'] [b, c] = false := by with_unfolding_all rfl) : PD X (.Compare a [op, op'] [b, c] pos) (dChain g g' ta tb tc) := (pe_chain ho ho' ha hb hc hm).impD (lf_chain hg hg')

/-! the operators over data -/
def addD : D2
  | .int i, .int j, Q => Q (.int (i + j))
  | .str i, .str j, Q => i.length + j.length ≤ sizeLine ∧ Q (.str (i ++ j))
  | .tup xs, .tup ys, Q => xs ≠ [] ∧ xs.length + ys.length ≤ sizeLine ∧ Q (.tup (xs ++ ys))
  | .lst xs, .lst ys, Q => xs.length + ys.length ≤ sizeLine ∧ Q (.lst (xs ++ ys))
  | _, _, _ => False
def intD (C : Int → Int → Prop) (f : Int → Int → D) : D2
  | .int i, .int j, Q => C i j ∧ Q (f i j)
  | _, _, _ => False
def intD0 (f : Int → Int → D) : D2
  | .int i, .int j, Q => Q (f i j)
  | _, _, _ => False
/-- a product's size: one side is small -/
def MulOk (i j : Int) : Prop := (-(2 ^ 64) < i ∧ i < 2 ^ 64) ∨ (-(2 ^ 64) < j ∧ j < 2 ^ 64)
def subD : D2 := intD0 fun i j => .int (i - j)
def mulD : D2 := intD MulOk fun i j => .int (i * j)
/-- a divisor -/
def DivOk (j : Int) : Prop := j ≠ 0 ∧ j.natAbs.log2 < 9000
def fdivD : D2 := intD (fun _ j => DivOk j) fun i j => .int (i.fdiv j)
def modD : D2 := intD (fun _ j => j ≠ 0) fun i j => .int (i.fmod j)
def powD : D2 := intD (fun i j => 0 ≤ j ∧ j ≤ 1000000 ∧ i.natAbs < 2 ^ 64) fun i j => .int (i ^ j.toNat)
theorem opD_int0 {K : PySem.W.Frag} {g : Int → Int → V} {f : Int → Int → D} (h : ∀ i j K F, Rp K F (g i j) (f i j)) : OpD K (rI0 g) (intD0 f) := fun F H x y dx dy Q0 Q s rx ry q k => by
  cases rx <;> cases ry <;> first | exact q.elim | skip
  exact ⟨_, _, rfl, rfl, k _ H F _ (.refl s) (h _ _ _ _) q⟩
theorem opD_int {K : PySem.W.Frag} {C : Int → Int → Prop} {g : Int → Int → V} {f : Int → Int → D} (h : ∀ i j K F, Rp K F (g i j) (f i j)) : OpD K (rI C g) (intD C f) := fun F H x y dx dy Q0 Q s rx ry q k => by
  cases rx <;> cases ry <;> first | exact q.elim | skip
  exact ⟨_, _, rfl, rfl, q.1, k _ H F _ (.refl s) (h _ _ _ _) q.2⟩
theorem pd_sub (ha : PD X a ta) (hb : PD X b tb) : PD X (.BinOp a .Sub b pos) (dOp subD ta tb) := pd_op op_sub (opD_int0 fun _ _ _ _ => .int _) ha hb
theorem pd_mul (ha : PD X a ta) (hb : PD X b tb) : PD X (.BinOp a .Mult b pos) (dOp mulD ta tb) := pd_op op_mul (opD_int fun _ _ _ _ => .int _) ha hb
theorem op_fdivA : OpR X (binaryOp .FloorDiv) (rI (fun _ j => DivOk j) fun i j => .int (i.fdiv j)) := opI fun _ _ _ _ _ _ _ hc q => floordiv_int hc.1 q (.inl (PyProof.noPylong_of_log2 hc.2))
theorem pd_fdiv (ha : PD X a ta) (hb : PD X b tb) : PD X (.BinOp a .FloorDiv b pos) (dOp fdivD ta tb) := pd_op op_fdivA (opD_int fun _ _ _ _ => .int _) ha hb
theorem pd_mod (ha : PD X a ta) (hb : PD X b tb) : PD X (.BinOp a .Mod b pos) (dOp modD ta tb) := pd_op op_modN (opD_int fun _ _ _ _ => .int _) ha hb
theorem pd_pow (ha : PD X a ta) (hb : PD X b tb) : PD X (.BinOp a .Pow b pos) (dOp powD ta tb) := pd_op op_pow (opD_int fun _ _ _ _ => .int _) ha hb
def rAddA (K : PySem.W.Frag) : R2 := fun x y H Q => ((rI0 (fun i j => .int (i + j)) x y H Q ∨ (∃ i j, x = .str i ∧ y = .str j ∧ i.length + j.length ≤ sizeLine ∧ Q (.str (i ++ j)) H)) ∨ rCatT K x y H Q) ∨ rCat x y H Q
theorem opD_add {K : PySem.W.Frag} : OpD K (rAddA K) addD := fun F H x y dx dy Q0 Q s rx ry q k => by
  cases rx <;> cases ry <;> first | exact q.elim | skip
  · exact .inl (.inl (.inl ⟨_, _, rfl, rfl, k _ H F _ (.refl s) (.int _) q⟩))
  · exact .inl (.inl (.inr ⟨_, _, rfl, rfl, q.1, k _ H F _ (.refl s) (.str _) q.2⟩))
  · rename_i a1 xs1 ds1 h1 r1 a2 xs2 ds2 h2 r2
    refine .inl (.inr ⟨_, _, _, _, rfl, rfl, s.seqT h1, s.seqT h2, fun z => q.1 ?_, by rw [r1.length, r2.length]; exact q.2.1, fun e => ?_, fun _ p hp => ?_⟩)
    · subst z; cases r1; rfl
    · subst e
      cases r2
      have q2 := q.2.2
      rw [List.append_nil] at q2
      exact k _ H F _ (.refl s) (.tup h1 r1) q2
    · have x := Ext.newT (xs := xs1 ++ xs2) s hp
      exact k _ _ _ _ x (.tup (.inl (.inl upd_same)) ((r1.append r2).mono x.mono)) q.2.2
  · rename_i a1 xs1 ds1 h1 r1 a2 xs2 ds2 h2 r2
    refine .inr ⟨_, _, _, _, rfl, rfl, s.lst h1, s.lst h2, by rw [r1.length, r2.length]; exact q.1, fun p hp => ?_⟩
    have x := Ext.newL (xs := xs1 ++ xs2) s hp
    exact k _ _ _ _ x (.lst upd_same ((r1.append r2).mono x.mono)) q.2
theorem pd_add (ha : PD X a ta) (hb : PD X b tb) : PD X (.BinOp a .Add b pos) (dOp addD ta tb) := pd_op (((op_add.or op_add_str).or op_catT).or op_cat) opD_add ha hb

/-! comparisons -/
def ltI : D2 := intD0 fun i j => .bl (decide (i < j))
def leI : D2 := intD0 fun i j => .bl (decide (i ≤ j))
def gtI : D2 := intD0 fun i j => .bl (decide (j < i))
def geI : D2 := intD0 fun i j => .bl (decide (j ≤ i))
theorem od_lt {K : PySem.W.Frag} : OpD K (rI0 fun i j => .bl (decide (i < j))) ltI := opD_int0 fun _ _ _ _ => .bl _
theorem od_le {K : PySem.W.Frag} : OpD K (rI0 fun i j => .bl (decide (i ≤ j))) leI := opD_int0 fun _ _ _ _ => .bl _
theorem od_gt {K : PySem.W.Frag} : OpD K (rI0 fun i j => .bl (decide (j < i))) gtI := opD_int0 fun _ _ _ _ => .bl _
theorem od_ge {K : PySem.W.Frag} : OpD K (rI0 fun i j => .bl (decide (j ≤ i))) geI := opD_int0 fun _ _ _ _ => .bl _

mutual
def D.toP : D → PyData
  | .non => .none
  | .bl b => .bool b
  | .int i => .int i
  | .str x => .str x
  | .tup xs => .tuple (D.toPs xs)
  | .lst xs => .list (D.toPs xs)
  | .dic _ => .none
  | .bag => .none
  | .scr => .none
def D.toPs : List D → List PyData
  | [] => []
  | x :: xs => D.toP x :: D.toPs xs
end
mutual
def D.flatOk : D → Bool
  | .tup xs => D.flatOks xs
  | .lst xs => D.flatOks xs
  | .dic _ => false
  | .bag => false
  | .scr => false
  | _ => true
def D.flatOks : List D → Bool
  | [] => true
  | x :: xs => D.flatOk x && D.flatOks xs
end
/-- data that == may compare -/
def D.lay (d : D) : Bool := d.flatOk && SeqAt.shaped d.toP
mutual
def D.eqb : D → D → Bool
  | .non, .non => true
  | .bl a, .bl b => a == b
  | .bl a, .int j => (if a then 1 else 0) == j
  | .int i, .bl b => i == (if b then 1 else 0)
  | .int i, .int j => i == j
  | .str x, .str y => x == y
  | .lst xs, .lst ys => D.eqbs xs ys
  | .tup xs, .tup ys => D.eqbs xs ys
  | _, _ => false
def D.eqbs : List D → List D → Bool
  | [], [] => true
  | x :: xs, y :: ys => D.eqb x y && D.eqbs xs ys
  | _, _ => false
end
mutual
theorem eqb_toP : ∀ (x y : D), x.flatOk = true → y.flatOk = true → PyData.eqv x.toP y.toP = D.eqb x y
  | .non, y, _, h => by cases y <;> first | rfl | (simp [D.flatOk] at h; done) | simp [D.toP, PyData.eqv, D.eqb]
  | .bl a, y, _, h => by cases y <;> first | rfl | (simp [D.flatOk] at h; done) | simp [D.toP, PyData.eqv, D.eqb]
  | .int a, y, _, h => by cases y <;> first | rfl | (simp [D.flatOk] at h; done) | simp [D.toP, PyData.eqv, D.eqb]
  | .str a, y, _, h => by cases y <;> first | rfl | (simp [D.flatOk] at h; done) | simp [D.toP, PyData.eqv, D.eqb]
  | .tup xs, y, hx, h => by
    cases y with
    | tup ys =>
      simp only [D.flatOk] at hx h
      simp only [D.toP, PyData.eqv, D.eqb]
      exact eqbs_toP xs ys hx h
    | _ => first | rfl | (simp [D.flatOk] at h; done) | simp [D.toP, PyData.eqv, D.eqb]
  | .lst xs, y, hx, h => by
    cases y with
    | lst ys =>
      simp only [D.flatOk] at hx h
      simp only [D.toP, PyData.eqv, D.eqb]
      exact eqbs_toP xs ys hx h
    | _ => first | rfl | (simp [D.flatOk] at h; done) | simp [D.toP, PyData.eqv, D.eqb]
  | .dic _, _, h, _ => by simp [D.flatOk] at h
  | .bag, _, h, _ => by simp [D.flatOk] at h
  | .scr, _, h, _ => by simp [D.flatOk] at h
theorem eqbs_toP : ∀ (x y : List D), D.flatOks x = true → D.flatOks y = true → PyData.eqvAll (D.toPs x) (D.toPs y) = D.eqbs x y
  | [], [], _, _ => rfl
  | [], _ :: _, _, _ => rfl
  | _ :: _, [], _, _ => rfl
  | x :: xs, y :: ys, hx, hy => by
    simp only [D.flatOks, Bool.and_eq_true] at hx hy
    simp only [D.toPs, PyData.eqvAll, D.eqbs]
    rw [eqb_toP x y hx.1 hy.1, eqbs_toP xs ys hx.2 hy.2]
end
mutual
theorem Rp.dp {K : PySem.W.Frag} {F H : Hp} (s : Sub F H) : ∀ {v : V} {d : D}, Rp K F v d → d.flatOk = true → Dp K H v d.toP
  | _, _, .non, _ => .non
  | _, _, .bl b, _ => .bl b
  | _, _, .int b, _ => .int b
  | _, _, .str b, _ => .str b
  | _, _, .tup h r, f => .tup (s.seqT h) (RpA.dp s r f)
  | _, _, .lst h r, f => .lst (.of (s.lst h)) (RpA.dp s r f)
  | _, _, .dic _ _ _, f => by simp [D.flatOk] at f
  | _, _, .dicT .., f => by simp [D.flatOk] at f
  | _, _, .bag _, f => by simp [D.flatOk] at f
  | _, _, .scr _ _, f => by simp [D.flatOk] at f
theorem RpA.dp {K : PySem.W.Frag} {F H : Hp} (s : Sub F H) : ∀ {v : List V} {d : List D}, RpA K F v d → D.flatOks d = true → DpAll K H v (D.toPs d)
  | _, _, .nil, _ => .nil
  | _, _, .cons h r, f => by
    simp only [D.flatOks, Bool.and_eq_true] at f
    exact .cons (Rp.dp s h f.1) (RpA.dp s r f.2)
end
def eqD : D2 := fun x y Q => x.lay = true ∧ y.lay = true ∧ Q (.bl (D.eqb x y))
def neD : D2 := fun x y Q => x.lay = true ∧ y.lay = true ∧ Q (.bl (!D.eqb x y))
theorem lay_and {d : D} (h : d.lay = true) : d.flatOk = true ∧ SeqAt.shaped d.toP = true := Bool.and_eq_true_iff.mp h
theorem od_eq {K : PySem.W.Frag} : OpD K (rEqD K) eqD := fun F H x y dx dy Q0 Q s rx ry q k => by
  obtain ⟨h1, h2, q⟩ := q
  refine ⟨dx.toP, dy.toP, rx.dp s (lay_and h1).1, ry.dp s (lay_and h2).1, (lay_and h1).2, (lay_and h2).2, ?_⟩
  rw [eqb_toP dx dy (lay_and h1).1 (lay_and h2).1]
  exact k _ H F _ (.refl s) (.bl _) q
theorem od_ne {K : PySem.W.Frag} : OpD K (rNeD K) neD := fun F H x y dx dy Q0 Q s rx ry q k => by
  obtain ⟨h1, h2, q⟩ := q
  refine ⟨dx.toP, dy.toP, rx.dp s (lay_and h1).1, ry.dp s (lay_and h2).1, (lay_and h1).2, (lay_and h2).2, ?_⟩
  rw [eqb_toP dx dy (lay_and h1).1 (lay_and h2).1]
  exact k _ H F _ (.refl s) (.bl _) q
def inD : D2 := fun x y Q => match y with
  | .lst ds => x.lay = true ∧ (D.lst ds).lay = true ∧ Q (.bl (ds.any fun z => D.eqb z x))
  | _ => False
def notInD : D2 := fun x y Q => match y with
  | .lst ds => x.lay = true ∧ (D.lst ds).lay = true ∧ Q (.bl (!ds.any fun z => D.eqb z x))
  | _ => False
theorem any_toP {x : D} (hx : x.flatOk = true) : ∀ ds : List D, D.flatOks ds = true → ((D.toPs ds).any fun z => PyData.eqv z x.toP) = ds.any fun z => D.eqb z x
  | [], _ => rfl
  | d :: ds, h => by
    simp only [D.flatOks, Bool.and_eq_true] at h
    simp only [D.toPs, List.any_cons]
    rw [eqb_toP d x h.1 hx, any_toP hx ds h.2]
theorem od_in {K : PySem.W.Frag} : OpD K (rInD K) inD := fun F H x y dx dy Q0 Q s rx ry q k => by
  cases dy <;> first | exact q.elim | skip
  rename_i ds
  obtain ⟨h1, h2, q⟩ := q
  have f2 : D.flatOks ds = true := by have := (lay_and h2).1; simpa only [D.flatOk] using this
  refine ⟨dx.toP, D.toPs ds, rx.dp s (lay_and h1).1, ry.dp s (lay_and h2).1, (lay_and h1).2, (lay_and h2).2, ?_⟩
  rw [any_toP (lay_and h1).1 ds f2]
  exact k _ H F _ (.refl s) (.bl _) q
theorem od_notIn {K : PySem.W.Frag} : OpD K (rNotInD K) notInD := fun F H x y dx dy Q0 Q s rx ry q k => by
  cases dy <;> first | exact q.elim | skip
  rename_i ds
  obtain ⟨h1, h2, q⟩ := q
  have f2 : D.flatOks ds = true := by have := (lay_and h2).1; simpa only [D.flatOk] using this
  refine ⟨dx.toP, D.toPs ds, rx.dp s (lay_and h1).1, ry.dp s (lay_and h2).1, (lay_and h1).2, (lay_and h2).2, ?_⟩
  rw [any_toP (lay_and h1).1 ds f2]
  exact k _ H F _ (.refl s) (.bl _) q
def isNonD : D2 := fun x y Q => match y with
  | .non => Q (.bl (match x with | .non => true | _ => false))
  | _ => False
def notNonD : D2 := fun x y Q => match y with
  | .non => Q (.bl (match x with | .non => false | _ => true))
  | _ => False
theorem od_isN {K : PySem.W.Frag} : OpD K (fun x y H Q => y = .non ∧ Q (.bl (decide (x = .non))) H) isNonD := fun F H x y dx dy Q0 Q s rx ry q k => by
  cases ry <;> first | exact q.elim | skip
  refine ⟨rfl, ?_⟩
  cases rx <;> exact k _ H F _ (.refl s) (.bl _) q
theorem od_notN {K : PySem.W.Frag} : OpD K (fun x y H Q => y = .non ∧ Q (.bl (!decide (x = .non))) H) notNonD := fun F H x y dx dy Q0 Q s rx ry q k => by
  cases ry <;> first | exact q.elim | skip
  refine ⟨rfl, ?_⟩
  cases rx <;> exact k _ H F _ (.refl s) (.bl _) q

def isBD : D2 := fun x y Q => match x, y with
  | .bl a, .bl b => Q (.bl (decide (a = b)))
  | _, _ => False
theorem od_isB {K : PySem.W.Frag} : OpD K rIsB isBD := fun F H x y dx dy Q0 Q s rx ry q k => by
  cases rx <;> cases ry <;> first | exact q.elim | skip
  exact ⟨_, _, rfl, rfl, k _ H F _ (.refl s) (.bl _) q⟩

/-! ### unary operators, tests, and, or, not, if else -/
def dUn (g : D → (D → Prop) → Prop) (ta : DE) : DE := fun ρ Q => ta ρ fun x => g x Q
def negD : D → (D → Prop) → Prop
  | .int i, Q => Q (.int (-i))
  | _, _ => False
theorem pd_neg (ha : PD X a ta) : PD X (.UnaryOp .USub a pos) (dUn negD ta) := (pe_un un_neg ha).impD fun σ H Q ⟨ρ, F, Q0, s, en, ht, k⟩ =>
  ⟨ρ, F, _, s, en, ht, fun x H1 F1 dx x1 rx q1 => by
    cases rx <;> first | exact q1.elim | skip
    exact ⟨_, rfl, k _ H1 F1 _ x1 (.int _) q1⟩⟩
def dTest (t : DE) : DT := fun ρ Q => t ρ fun x => match x with
  | .bl b => Q b
  | _ => False
theorem lf_test {K : PySem.W.Frag} : ∀ σ H Q, lfT K (dTest t) σ H Q → (lfE K t) σ H (fun x H' => ∃ k, x = .bl k ∧ Q k H') := fun σ H Q ⟨ρ, F, Q0, s, en, ht, k⟩ =>
  ⟨ρ, F, _, s, en, ht, fun x H1 F1 dx x1 rx q1 => by
    cases dx <;> first | exact q1.elim | skip
    cases rx
    exact ⟨_, rfl, k _ H1 F1 x1 q1⟩⟩
theorem pdt_val (h : PD X e t) (he : ∀ whole, isTrue e X.env whole = (do let v ← whole; standAt e.pos; holding [v] (truthy v)) := by intro _; rfl) : PDT X e (dTest t) := (pt_val h he).impD lf_test
theorem pdt_cmp {op : CmpOp} {r : R2} {g : D2} (ho : OpR X (compareOp op) r) (hg : OpD X.K r g) (hm : behindInMarks op b = false) (ha : PD X a ta) (hb : PD X b tb) : PDT X (.Compare a [op] [b] pos) (dTest (dOp g ta tb)) :=
  (pt_cmpR ho ha hb hm).impD fun σ H Q h => lf_op hg σ H _ (by
    obtain ⟨ρ, F, Q0, s, en, ht, k⟩ := h
    refine ⟨ρ, F, _, s, en, ht, fun x H1 F1 dx x1 rx q1 => ?_⟩
    cases dx <;> first | exact q1.elim | skip
    cases rx
    exact ⟨_, rfl, k _ H1 F1 x1 q1⟩)
theorem pdt_chain {op op' : CmpOp} {r r' : R2} {g g' : D2} (ho : OpR X (compareOp op) r) (hg : OpD X.K r g) (ho' : OpR X (compareOp op') r') (hg' : OpD X.K r' g') (ha : PD X a ta) (hb : PD X b tb) (hc : PD X c tc)
    (hm : lastMarks [op, op'] [b, c] = false := by with_unfolding_all rfl) : PDT X (.Compare a [op, op'] [b, c] pos) (dTest (dChain g g' ta tb tc)) :=
  (pt_chain ho ho' ha hb hc hm).impD fun σ H Q h => lf_chain hg hg' σ H _ (by
    obtain ⟨ρ, F, Q0, s, en, ht, k⟩ := h
    refine ⟨ρ, F, _, s, en, ht, fun x H1 F1 dx x1 rx q1 => ?_⟩
    cases dx <;> first | exact q1.elim | skip
    cases rx
    exact ⟨_, rfl, k _ H1 F1 x1 q1⟩)
def dAnd (t u : DT) : DT := fun ρ Q => t ρ fun c => if c = true then u ρ Q else Q false
def dOr (t u : DT) : DT := fun ρ Q => t ρ fun c => if c = true then Q true else u ρ Q
def dNot (t : DT) : DT := fun ρ Q => t ρ fun c => Q (!c)
theorem pdw_and1 (h : PDT X a tA) : PDW X (.BoolOp .And [a] pos) tA := pw_and1 h
theorem pdw_or1 (h : PDT X a tA) : PDW X (.BoolOp .Or [a] pos) tA := pw_or1 h
theorem pdw_and (ha : PDT X a tA) (hb : PDW X (.BoolOp .And (b :: rest) pos) tB) : PDW X (.BoolOp .And (a :: b :: rest) pos) (dAnd tA tB) := (pw_and ha hb).impD fun σ H Q ⟨ρ, F, Q0, s, en, ht, k⟩ =>
  ⟨ρ, F, _, s, en, ht, fun c H1 F1 x1 q1 => by
    cases c with
    | true => exact iteT ⟨ρ, F1, Q0, x1.sub, en.mono x1, q1, fun b H2 F2 x2 q2 => k b H2 F2 (x1.trans x2) q2⟩
    | false => exact iteF (k _ H1 F1 x1 q1)⟩
theorem pdw_or (ha : PDT X a tA) (hb : PDW X (.BoolOp .Or (b :: rest) pos) tB) : PDW X (.BoolOp .Or (a :: b :: rest) pos) (dOr tA tB) := (pw_or ha hb).impD fun σ H Q ⟨ρ, F, Q0, s, en, ht, k⟩ =>
  ⟨ρ, F, _, s, en, ht, fun c H1 F1 x1 q1 => by
    cases c with
    | true => exact iteT (k _ H1 F1 x1 q1)
    | false => exact iteF ⟨ρ, F1, Q0, x1.sub, en.mono x1, q1, fun b H2 F2 x2 q2 => k b H2 F2 (x1.trans x2) q2⟩⟩
theorem pdt_w (h : PDW X e tA) : PDT X e tA := h.pt
theorem pdt_not (ha : PDT X a tA) : PDT X (.UnaryOp .Not a pos) (dNot tA) := (pt_not ha).impD fun σ H Q ⟨ρ, F, Q0, s, en, ht, k⟩ =>
  ⟨ρ, F, _, s, en, ht, fun c H1 F1 x1 q1 => k _ H1 F1 x1 q1⟩
/-- as values -/
def dAndV (ta tb : DE) : DE := fun ρ Q => ta ρ fun x => match x with
  | .bl c => if c = true then tb ρ Q else Q (.bl false)
  | _ => False
def dOrV (ta tb : DE) : DE := fun ρ Q => ta ρ fun x => match x with
  | .bl c => if c = true then Q (.bl true) else tb ρ Q
  | _ => False
def notD : D → (D → Prop) → Prop
  | .bl c, Q => Q (.bl (!c))
  | _, _ => False
theorem pd_one {op} (h : PD X a t) : PD X (.BoolOp op [a] pos) t := pe_one h
theorem pd_and (ha : PD X a ta) (hb : PD X (.BoolOp .And (b :: rest) pos) tb) : PD X (.BoolOp .And (a :: b :: rest) pos) (dAndV ta tb) := (pe_and ha hb).impD fun σ H Q ⟨ρ, F, Q0, s, en, ht, k⟩ =>
  ⟨ρ, F, _, s, en, ht, fun x H1 F1 dx x1 rx q1 => by
    cases dx <;> first | exact q1.elim | skip
    cases rx
    rename_i c
    refine ⟨c, rfl, ?_⟩
    cases c with
    | true => exact iteT ⟨ρ, F1, Q0, x1.sub, en.mono x1, q1, fun v H2 F2 d x2 r2 q2 => k v H2 F2 d (x1.trans x2) r2 q2⟩
    | false => exact iteF (k _ H1 F1 _ x1 (.bl _) q1)⟩
theorem pd_or (ha : PD X a ta) (hb : PD X (.BoolOp .Or (b :: rest) pos) tb) : PD X (.BoolOp .Or (a :: b :: rest) pos) (dOrV ta tb) := (pe_or ha hb).impD fun σ H Q ⟨ρ, F, Q0, s, en, ht, k⟩ =>
  ⟨ρ, F, _, s, en, ht, fun x H1 F1 dx x1 rx q1 => by
    cases dx <;> first | exact q1.elim | skip
    cases rx
    rename_i c
    refine ⟨c, rfl, ?_⟩
    cases c with
    | true => exact iteT (k _ H1 F1 _ x1 (.bl _) q1)
    | false => exact iteF ⟨ρ, F1, Q0, x1.sub, en.mono x1, q1, fun v H2 F2 d x2 r2 q2 => k v H2 F2 d (x1.trans x2) r2 q2⟩⟩
theorem pd_not (ha : PD X a ta) : PD X (.UnaryOp .Not a pos) (dUn notD ta) := (pe_not ha).impD fun σ H Q ⟨ρ, F, Q0, s, en, ht, k⟩ =>
  ⟨ρ, F, _, s, en, ht, fun x H1 F1 dx x1 rx q1 => by
    cases dx <;> first | exact q1.elim | skip
    cases rx
    exact ⟨_, rfl, k _ H1 F1 _ x1 (.bl _) q1⟩⟩
def dIf (c : DT) (ta tb : DE) : DE := fun ρ Q => c ρ fun k => if k = true then ta ρ Q else tb ρ Q
theorem pd_if (hc : PDT X c tA) (ha : PD X a ta) (hb : PD X b tb) : PD X (.IfExp c a b pos) (dIf tA ta tb) := (pe_ifExp hc ha hb).impD fun σ H Q ⟨ρ, F, Q0, s, en, ht, k⟩ =>
  ⟨ρ, F, _, s, en, ht, fun c H1 F1 x1 q1 => by
    cases c with
    | true => exact iteT ⟨ρ, F1, Q0, x1.sub, en.mono x1, q1, fun v H2 F2 d x2 r2 q2 => k v H2 F2 d (x1.trans x2) r2 q2⟩
    | false => exact iteF ⟨ρ, F1, Q0, x1.sub, en.mono x1, q1, fun v H2 F2 d x2 r2 q2 => k v H2 F2 d (x1.trans x2) r2 q2⟩⟩

/-! ### arguments, displays -/
def dNil : DA := fun _ Q => Q []
def dCons (ta : DE) (tr : DA) : DA := fun ρ Q => ta ρ fun x => tr ρ fun xs => Q (x :: xs)
theorem pda_nil : PDA X [] dNil := pa_nil.impD fun σ H Q ⟨ρ, F, Q0, s, en, ht, k⟩ => k [] H F [] (.refl s) .nil ht
theorem pda_cons (ha : PD X e t) (hr : PDA X es tr) (hs : starEach (e :: es) X.env = (false, eval e X.env) :: starEach es X.env := by rfl) : PDA X (e :: es) (dCons t tr) := (pa_cons ha hr hs).impD fun σ H Q ⟨ρ, F, Q0, s, en, ht, k⟩ =>
  ⟨ρ, F, _, s, en, ht, fun x H1 F1 dx x1 rx q1 => ⟨ρ, F1, _, x1.sub, en.mono x1, q1, fun xs H2 F2 ds x2 rs q2 => k _ H2 F2 _ (x1.trans x2) (.cons (rx.mono x2.mono) rs) q2⟩⟩
def dTup (t : DA) : DE := fun ρ Q => t ρ fun xs => xs.length ≤ sizeLine ∧ Q (.tup xs)
def dLst (t : DA) : DE := fun ρ Q => t ρ fun xs => xs.length ≤ sizeLine ∧ Q (.lst xs)
theorem pd_tup {x1} (h : PDA X es tr) : PD X (.Tuple es x1 pos) (dTup tr) := (pe_tup h).impD fun σ H Q ⟨ρ, F, Q0, s, en, ht, k⟩ =>
  ⟨ρ, F, _, s, en, ht, fun xs H1 F1 ds x1 rs q1 => ⟨by rw [rs.length]; exact q1.1, fun p hp => by
    have x := Ext.newT (xs := xs) x1.sub hp
    exact k _ _ _ _ (x1.trans x) (.tup (.inl (.inl upd_same)) (rs.mono x.mono)) q1.2⟩⟩
theorem pd_lst (h : PDA X es tr) : PD X (.List es pos) (dLst tr) := (pe_lst h).impD fun σ H Q ⟨ρ, F, Q0, s, en, ht, k⟩ =>
  ⟨ρ, F, _, s, en, ht, fun xs H1 F1 ds x1 rs q1 => ⟨by rw [rs.length]; exact q1.1, fun p hp => by
    have x := Ext.newL (xs := xs) x1.sub hp
    exact k _ _ _ _ (x1.trans x) (.lst upd_same (rs.mono x.mono)) q1.2⟩⟩
end
end DV

namespace DV
open PySem PySem.Spec PyProof.Rows L2

/-! ### statements -/
structure Sta (K : PySem.W.Frag) (F0 H0 G F : Hp) (σ : St) (H : Hp) (ρ : List Slot) : Prop where
  bse : Sub F0 H0
  pin : Same G F
  ext : Ext F0 H0 F H
  env : EnvOk K F H σ ρ
  own : ∀ (i : Nat) p d, σ[i]? = some (some (.ref p)) → ρ[i]? = some (.own d) → H0 p = none
def StOk (K : PySem.W.Frag) (F0 H0 G : Hp) (σ : St) (H : Hp) (ρ : List Slot) : Prop := ∃ F, Sta K F0 H0 G F σ H ρ
theorem Sta.step {K : PySem.W.Frag} {F0 H0 G F F1 H H1 : Hp} {σ : St} {ρ : List Slot} (s : Sta K F0 H0 G F σ H ρ) (x : Ext F H F1 H1) : Sta K F0 H0 G F1 σ H1 ρ := ⟨s.bse, s.pin.trans x.mono, s.ext.trans x, s.env.mono x, s.own⟩
theorem Sta.set {K : PySem.W.Frag} {F0 H0 G F H : Hp} {σ : St} {ρ : List Slot} (s : Sta K F0 H0 G F σ H ρ) (i : Nat) {v : V} {d : D} (r : Rp K F v d) : Sta K F0 H0 G F (σ.set i (some v)) H (ρ.set i (.v d)) := by
  refine ⟨s.bse, s.pin, s.ext, s.env.set i r, fun j p e h1 h2 => ?_⟩
  have nj : j ≠ i := fun z => by
    subst z
    have hl : j < ρ.length := by
      have := (List.getElem?_eq_some_iff.mp h2).1
      simpa using this
    rw [List.getElem?_set_self hl] at h2; cases h2
  rw [List.getElem?_set_ne (Ne.symm nj)] at h1 h2
  exact s.own j p e h1 h2
structure EndsOk (K : PySem.W.Frag) (F0 H0 G : Hp) (N : DN) (Dn : Ends) : Prop where
  nx : ∀ σ H ρ, StOk K F0 H0 G σ H ρ → N.nx ρ → Dn.nx σ H
  rt : ∀ v H' F' d, Ext F0 H0 F' H' → Rp K F' v d → N.rt d → Dn.rt v H'
  ro : ∀ p d H' F', Ext F0 H0 F' H' → H0 p = none → F' p = none → OwnAt K F' H' p d → N.ro d → Dn.rt (.ref p) H'
  bk : ∀ σ H ρ, StOk K F0 H0 G σ H ρ → N.bk ρ → Dn.bk σ H
  ct : ∀ σ H ρ, StOk K F0 H0 G σ H ρ → N.ct ρ → Dn.ct σ H
def lfS (K : PySem.W.Frag) (t : DS) : TS := fun Dn σ H => ∃ F0 H0 G ρ N, StOk K F0 H0 G σ H ρ ∧ t N ρ ∧ EndsOk K F0 H0 G N Dn
abbrev PDS (X : Cx) (st : Stmt) (t : DS) : Prop := PS X st (lfS X.K t)
abbrev PDSs (X : Cx) (st : List Stmt) (t : DS) : Prop := PSs X st (lfS X.K t)

section
variable {X : Cx} {e a b c : Expr} {es : List Expr} {st : Stmt} {sts as bs : List Stmt} {t ta tb tc : DE} {tr : DA} {tA tB : DT} {u v w : DS} {pos : Pos}

def sNext : DS := fun N ρ => N.nx ρ
def sSeq (t u : DS) : DS := fun N ρ => t { N with nx := u N } ρ
theorem pds_nil : PDSs X [] sNext := pss_nil.impD fun N σ H ⟨F0, H0, G, ρ, M, so, ht, k⟩ => k.nx σ H ρ so ht
theorem pds_cons (h1 : PDS X st u) (h2 : PDSs X sts v) : PDSs X (st :: sts) (sSeq u v) := (pss_cons h1 h2).impD fun N σ H ⟨F0, H0, G, ρ, M, so, ht, k⟩ =>
  ⟨F0, H0, G, ρ, _, so, ht, fun σ' H' ρ' so' q => ⟨F0, H0, G, ρ', M, so', q, k⟩, k.rt, k.ro, k.bk, k.ct⟩
theorem pds_one (h1 : PDS X st u) : PDSs X [st] u := pss_one h1
theorem pds_pass : PDS X (.Pass pos) sNext := ps_pass.impD fun N σ H ⟨F0, H0, G, ρ, M, so, ht, k⟩ => k.nx σ H ρ so ht
def sBreak : DS := fun N ρ => N.bk ρ
def sCont : DS := fun N ρ => N.ct ρ
theorem pds_break : PDS X (.Break pos) sBreak := ps_break.impD fun N σ H ⟨F0, H0, G, ρ, M, so, ht, k⟩ => k.bk σ H ρ so ht
theorem pds_continue : PDS X (.Continue pos) sCont := ps_continue.impD fun N σ H ⟨F0, H0, G, ρ, M, so, ht, k⟩ => k.ct σ H ρ so ht
def sNever : DS := fun _ _ => False
theorem pds_never : PDS X st sNever := ps_never.impD fun N σ H ⟨F0, H0, G, ρ, M, so, ht, k⟩ => ht.elim
theorem pdss_never : PDSs X sts sNever := pss_never.impD fun N σ H ⟨F0, H0, G, ρ, M, so, ht, k⟩ => ht.elim
theorem Sta.lf {K : PySem.W.Frag} {F0 H0 G F H : Hp} {σ : St} {ρ : List Slot} (s : Sta K F0 H0 G F σ H ρ) {t : DE} {Q0 : D → Prop} (ht : t ρ Q0) {Q : VK} (k : ∀ v H' F' d, Sta K F0 H0 G F' σ H' ρ → Rp K F' v d → Q0 d → Q v H') : lfE K t σ H Q :=
  ⟨ρ, F, Q0, s.ext.sub, s.env, ht, fun v H' F' d x r q => k v H' F' d (s.step x) r q⟩
theorem Sta.lfT {K : PySem.W.Frag} {F0 H0 G F H : Hp} {σ : St} {ρ : List Slot} (s : Sta K F0 H0 G F σ H ρ) {t : DT} {Q0 : Bool → Prop} (ht : t ρ Q0) {Q : Bool → Hp → Prop} (k : ∀ v H' F', Sta K F0 H0 G F' σ H' ρ → Q0 v → Q v H') : DV.lfT K t σ H Q :=
  ⟨ρ, F, Q0, s.ext.sub, s.env, ht, fun v H' F' x q => k v H' F' (s.step x) q⟩
theorem Sta.lfA {K : PySem.W.Frag} {F0 H0 G F H : Hp} {σ : St} {ρ : List Slot} (s : Sta K F0 H0 G F σ H ρ) {t : DA} {Q0 : List D → Prop} (ht : t ρ Q0) {Q : List V → Hp → Prop} (k : ∀ v H' F' d, Sta K F0 H0 G F' σ H' ρ → RpA K F' v d → Q0 d → Q v H') : DV.lfA K t σ H Q :=
  ⟨ρ, F, Q0, s.ext.sub, s.env, ht, fun v H' F' d x r q => k v H' F' d (s.step x) r q⟩
def sDrop (t : DE) : DS := fun N ρ => t ρ fun _ => N.nx ρ
theorem pds_expr (he : PD X e t) (hs : swapsWith e none pos.line X.env = pure false := by rfl) : PDS X (.Expr e pos) (sDrop t) := (ps_expr he hs).impD fun N σ H ⟨F0, H0, G, ρ, M, ⟨F, so⟩, ht, k⟩ =>
  so.lf ht fun v H' F' d so' _ q => k.nx σ H' ρ ⟨F', so'⟩ q
def sRet (t : DE) : DS := fun N ρ => t ρ N.rt
theorem pds_ret (he : PD X e t) : PDS X (.Return (some e) pos) (sRet t) := (ps_ret he).impD fun N σ H ⟨F0, H0, G, ρ, M, ⟨F, so⟩, ht, k⟩ =>
  so.lf ht fun v H' F' d so' r q => k.rt v H' F' d so'.ext r q
def sRetN : DS := fun N _ => N.rt .non
theorem pds_retN : PDS X (.Return none pos) sRetN := ps_retN.impD fun N σ H ⟨F0, H0, G, ρ, M, ⟨F, so⟩, ht, k⟩ => k.rt _ H F .non so.ext .non ht
def sIf (c : DT) (t u : DS) : DS := fun N ρ => c ρ fun b => if b = true then t N ρ else u N ρ
theorem pds_if (hc : PDT X c tA) (ha : PDSs X as u) (hb : PDSs X bs v) : PDS X (.If c as bs pos) (sIf tA u v) := (ps_if hc ha hb).impD fun N σ H ⟨F0, H0, G, ρ, M, ⟨F, so⟩, ht, k⟩ =>
  so.lfT ht fun b H' F' so' q => by
    cases b with
    | true => exact iteT ⟨F0, H0, G, ρ, M, ⟨F', so'⟩, q, k⟩
    | false => exact iteF ⟨F0, H0, G, ρ, M, ⟨F', so'⟩, q, k⟩

/-! ### targets -/
abbrev DG := D → List Slot → (List Slot → Prop) → Prop
/-- g over the heap, g' over data; vs: the slots that it may store -/
def RelG (K : PySem.W.Frag) (vs : List Nat) (g : TG) (g' : DG) : Prop := ∀ (F0 H0 G F H : Hp) (σ : St) (ρ : List Slot) (x : V) (d : D) (Q0 : List Slot → Prop) (Q : St → Hp → Prop), Sta K F0 H0 G F σ H ρ → Rp K F x d → g' d ρ Q0 →
  (∀ σ' ρ', Sta K F0 H0 G F σ' H ρ' → wipe σ' vs = wipe σ vs → Q0 ρ' → Q σ' H) → g x σ H Q
def RelGs (K : PySem.W.Frag) (vs : List Nat) (g : TGs) (g' : List D → List Slot → (List Slot → Prop) → Prop) : Prop := ∀ (F0 H0 G F H : Hp) (σ : St) (ρ : List Slot) (x : List V) (d : List D) (Q0 : List Slot → Prop) (Q : St → Hp → Prop), Sta K F0 H0 G F σ H ρ → RpA K F x d → g' d ρ Q0 →
  (∀ σ' ρ', Sta K F0 H0 G F σ' H ρ' → wipe σ' vs = wipe σ vs → Q0 ρ' → Q σ' H) → g x σ H Q
def gN (i : Nat) : DG := fun d ρ Q => Q (ρ.set i (.v d))
def gsNil : List D → List Slot → (List Slot → Prop) → Prop := fun ds ρ Q => ds = [] ∧ Q ρ
def gsCons (g : DG) (gs : List D → List Slot → (List Slot → Prop) → Prop) : List D → List Slot → (List Slot → Prop) → Prop := fun ds ρ Q => match ds with
  | [] => False
  | d :: r => g d ρ fun ρ' => gs r ρ' Q
def gT (n : Nat) (gs : List D → List Slot → (List Slot → Prop) → Prop) : DG := fun d ρ Q => match d with
  | .tup ds => ds.length = n ∧ gs ds ρ Q
  | _ => False
theorem wipe_at : ∀ {vs : List Nat} {σ : St} {i : Nat} {x : Option V}, i ∈ vs → wipe (σ.set i x) vs = wipe σ vs
  | [], _, _, _, h => by cases h
  | v :: r, σ, i, x, h => by
    have comm : ∀ (r : List Nat) (σ : St) (i : Nat) (x : Option V), i ∉ r → wipe (σ.set i x) r = (wipe σ r).set i x := by
      intro r
      induction r with
      | nil => intro σ i x _; rfl
      | cons w q ih =>
        intro σ i x hn
        show (wipe (σ.set i x) q).set w none = ((wipe σ q).set w none).set i x
        rw [ih σ i x (fun z => hn (List.mem_cons_of_mem _ z)), List.set_comm _ _ (fun z => hn (by rw [z]; exact List.mem_cons_self))]
    show (wipe (σ.set i x) r).set v none = (wipe σ r).set v none
    by_cases hr : i ∈ r
    · rw [wipe_at hr]
    · have e : i = v := (List.mem_cons.mp h).resolve_right hr
      subst e
      rw [comm r σ i x hr, List.set_set]
theorem rg_nm {K : PySem.W.Frag} {vs : List Nat} {i : Nat} (h : i ∈ vs) : RelG K vs (gName i) (gN i) := fun F0 H0 G F H σ ρ x d Q0 Q s r q k => k _ _ (s.set i r) (wipe_at h) q
theorem rg_nil {K : PySem.W.Frag} {vs : List Nat} : RelGs K vs gNil gsNil := fun F0 H0 G F H σ ρ x d Q0 Q s r q k => by
  obtain ⟨rfl, q⟩ := q
  cases r
  exact ⟨rfl, k _ _ s rfl q⟩
theorem rg_cons {K : PySem.W.Frag} {vs : List Nat} {g : TG} {g' : DG} {gs gs'} (h : RelG K vs g g') (hs : RelGs K vs gs gs') : RelGs K vs (gCons g gs) (gsCons g' gs') := fun F0 H0 G F H σ ρ x d Q0 Q s r q k => by
  cases r with
  | nil => exact q.elim
  | cons r1 r2 => exact ⟨_, _, rfl, h _ _ _ _ _ _ _ _ _ _ _ s r1 q fun σ' ρ' s' w q' => hs _ _ _ _ _ _ _ _ _ _ _ s' r2 q' fun σ2 ρ2 s2 w2 q2 => k σ2 ρ2 s2 (w2.trans w) q2⟩
theorem rg_tup {K : PySem.W.Frag} {vs : List Nat} {n : Nat} {gs gs'} (hs : RelGs K vs gs gs') : RelG K vs (gTup K n gs) (gT n gs') := fun F0 H0 G F H σ ρ x d Q0 Q s r q k => by
  cases d <;> first | exact q.elim | skip
  cases r with
  | tup h ra => exact ⟨_, _, rfl, s.ext.sub.seqT h, by rw [ra.length]; exact q.1, hs _ _ _ _ _ _ _ _ _ _ _ s ra q.2 k⟩
def sAsg (t : DE) (g : DG) : DS := fun N ρ => t ρ fun d => g d ρ N.nx
theorem pds_asg {tg : Expr} {g : TG} {g' : DG} {vs : List Nat} (hG : RelG X.K vs g g') (he : PD X e t) (hg : PG X tg g) (hs : swapsWithSole [tg] e pos.line X.env = pure false := by rfl) (hw : swappedStores [tg] e X.env = pure none := by rfl)
    (h1 : (assignEach [tg] X.env).map (·.2) = [assign tg X.env] := by rfl) : PDS X (.Assign [tg] e pos) (sAsg t g') := (ps_asg he hg hs hw h1).impD fun N σ H ⟨F0, H0, G, ρ, M, ⟨F, so⟩, ht, k⟩ =>
  so.lf ht fun v H' F' d so' r q => hG _ _ _ _ _ _ _ _ _ _ _ so' r q fun σ' ρ' s' _ q' => k.nx σ' H' ρ' ⟨F', s'⟩ q'
def sSet (i : Nat) (t : DE) : DS := fun N ρ => t ρ fun d => N.nx (ρ.set i (.v d))
theorem pds_set {i : Nat} {x : Str} {pos' : Pos} (hN : X.N.Nodup) (hi : X.N[i]? = some x) (hx : Loc X.env.scope x) (he : PD X e t) (hs : swapsWith e (some (.Name x pos')) pos.line X.env = pure false := by rfl)
    (hf : X.fn x = true ∨ X.env.scope.names.lookup x = some .local := by first | exact .inl rfl | exact .inr rfl | assumption) : PDS X (.Assign [.Name x pos'] e pos) (sSet i t) := (ps_set hN hi hx he hs hf).impD fun N σ H ⟨F0, H0, G, ρ, M, ⟨F, so⟩, ht, k⟩ =>
  so.lf ht fun v H' F' d so' r q => k.nx _ H' _ ⟨F', so'.set i r⟩ q
def sPar (i j : Nat) (t : DA) : DS := fun N ρ => t ρ fun ds => match ds with
  | [d, e] => N.nx ((ρ.set i (.v d)).set j (.v e))
  | _ => False
theorem pds_par {i j : Nat} {x y : Str} {px py pt : Pos} {kt k2 pt2} (hc : X.calm = true) (hN : X.N.Nodup) (hi : X.N[i]? = some x) (hj : X.N[j]? = some y) (hij : i ≠ j)
    (hx : X.env.scope.names.lookup x = some .local) (hy : X.env.scope.names.lookup y = some .local) (ha : PDA X [a, b] tr)
    (hw : swappedStores [.Tuple [.Name x px, .Name y py] kt pt] (.Tuple [a, b] k2 pt2) X.env = pure (some [x, y]))
    (hs : swapsWithSole [.Tuple [.Name x px, .Name y py] kt pt] (.Tuple [a, b] k2 pt2) pos.line X.env = pure false := by rfl) :
    PDS X (.Assign [.Tuple [.Name x px, .Name y py] kt pt] (.Tuple [a, b] k2 pt2) pos) (sPar i j tr) := (ps_par hc hN hi hj hij hx hy ha hw hs).impD fun N σ H ⟨F0, H0, G, ρ, M, ⟨F, so⟩, ht, k⟩ =>
  so.lfA ht fun vs H' F' ds so' r q => by
    cases r with
    | nil => exact q.elim
    | cons r1 r2 =>
      cases r2 with
      | nil => exact q.elim
      | cons r2 r3 =>
        cases r3 with
        | nil => exact ⟨_, _, rfl, k.nx _ H' _ ⟨F', (so'.set i r1).set j r2⟩ q⟩
        | cons _ _ => exact q.elim

def sPar3 (i j l : Nat) (t : DA) : DS := fun N ρ => t ρ fun ds => match ds with
  | [d, e, f] => N.nx (((ρ.set i (.v d)).set j (.v e)).set l (.v f))
  | _ => False
theorem pds_par3 {i j l : Nat} {st : Stmt} (h : PS X st (tPar3 i j l (lfA X.K tr))) : PDS X st (sPar3 i j l tr) := h.impD fun N σ H ⟨F0, H0, G, ρ, M, ⟨F, so⟩, ht, k⟩ =>
  so.lfA ht fun vs H' F' ds so' r q => by
    rcases r with _ | ⟨r1, _ | ⟨r2, _ | ⟨r3, _ | ⟨_, _⟩⟩⟩⟩ <;> first | exact q.elim | skip
    exact ⟨_, _, _, rfl, k.nx _ H' _ ⟨F', ((so'.set i r1).set j r2).set l r3⟩ q⟩

/-! ### what is walked -/
abbrev DI := List Slot → (List D → Prop) → Prop
def ItOk (K : PySem.W.Frag) (J : It) (F : Hp) (ds : List D) : Prop := ∀ F' H', Same F F' → Sub F' H' → ∀ i,
  (i < ds.length → J.go i H' ∧ ∀ x H'', J.yld i H' x H'' → ∃ F'' d, Ext F' H' F'' H'' ∧ ds[i]? = some d ∧ Rp K F'' x d) ∧ (ds.length ≤ i → J.stop i H')
def lfI (K : PySem.W.Frag) (t : DI) : TI := fun σ H R => ∃ ρ F Q0, Sub F H ∧ EnvOk K F H σ ρ ∧ t ρ Q0 ∧ ∀ J H' F' ds, Ext F H F' H' → ItOk K J F' ds → Q0 ds → R J H'
abbrev PDI (X : Cx) (tg e : Expr) (t : DI) : Prop := PI X tg e (lfI X.K t)
theorem _root_.L2.PI.impD {tg e : Expr} {t t' : TI} (h : PI X tg e t) (i : ∀ σ H Q, t' σ H Q → t σ H Q) : PI X tg e t' := ⟨fun p s σ H Q I q => h.run p s σ H Q I (i _ _ _ q)⟩
def iLst (t : DE) : DI := fun ρ Q => t ρ fun d => match d with
  | .lst ds => Q ds
  | _ => False
def iTupD (t : DE) : DI := fun ρ Q => t ρ fun d => match d with
  | .tup ds => Q ds
  | _ => False
theorem it_seq {K : PySem.W.Frag} {J : It} {F : Hp} {ds : List D} {xs : List V} {Sq : Hp → List V → Prop} (ra : RpA K F xs ds) (hS : ∀ F' H', Same F F' → Sub F' H' → Sq H' xs) (hg : ∀ i H, (∃ ys y, Sq H ys ∧ ys[i]? = some y) → J.go i H)
    (hy : ∀ i H x H', J.yld i H x H' → H' = H ∧ ∀ ys, Sq H ys → ys[i]? = some x) (hs : ∀ i H, (∃ ys, Sq H ys ∧ ys.length ≤ i) → J.stop i H) : ItOk K J F ds := fun F' H' m s' i => by
  refine ⟨fun hi => ?_, fun hi => hs _ _ ⟨xs, hS _ _ m s', by rw [ra.length]; exact hi⟩⟩
  have hl : i < xs.length := by rw [ra.length]; exact hi
  refine ⟨hg _ _ ⟨xs, _, hS _ _ m s', List.getElem?_eq_getElem hl⟩, fun x H'' hyy => ?_⟩
  obtain ⟨e1, e2⟩ := hy _ _ _ _ hyy
  obtain ⟨v, ev, rv⟩ := ra.get (List.getElem?_eq_getElem hi)
  have ex := e2 xs (hS _ _ m s')
  rw [ev] at ex; cases ex
  subst e1
  exact ⟨F', _, .refl s', List.getElem?_eq_getElem hi, rv.mono m⟩
theorem pdi_list {tg : Expr} (h : PD X e t) : PDI X tg e (iLst t) := PI.impD (pi_list h) fun σ H R ⟨ρ, F, Q0, s, en, ht, k⟩ =>
  ⟨ρ, F, _, s, en, ht, fun v H1 F1 d x1 r q => by
    cases d <;> first | exact q.elim | skip
    cases r with
    | lst h1 ra => exact ⟨_, rfl, ⟨_, .of (x1.sub.lst h1)⟩, k _ H1 F1 _ x1 (it_seq (Sq := fun H ys => SqL X.K H _ ys) ra (fun F' H' m s' => .of (s'.lst (m _ _ h1))) (fun _ _ z => z) (fun _ _ _ _ z => z) (fun _ _ z => z)) q⟩⟩
theorem pdi_tup {tg : Expr} (h : PD X e t) : PDI X tg e (iTupD t) := PI.impD (pi_tup h) fun σ H R ⟨ρ, F, Q0, s, en, ht, k⟩ =>
  ⟨ρ, F, _, s, en, ht, fun v H1 F1 d x1 r q => by
    cases d <;> first | exact q.elim | skip
    cases r with
    | tup h1 ra => exact ⟨_, rfl, ⟨_, x1.sub.seqT h1⟩, k _ H1 F1 _ x1 (it_seq (Sq := fun H ys => SqT X.K H _ ys) ra (fun F' H' m s' => s'.seqT (SqT.same m h1)) (fun _ _ z => z) (fun _ _ _ _ z => z) (fun _ _ z => z)) q⟩⟩
theorem pi_seq {tg l : Expr} {tl : TE} (hl : PE X l tl) : PI X tg l (fun σ H R => tl σ H fun x H1 => ∃ a, x = .ref a ∧ (((∃ xs, SqL X.K H1 a xs) ∧ R (Itl X.K a) H1) ∨ ((∃ xs, SqT X.K H1 a xs) ∧ R (Itt X.K a) H1))) := by
  refine ⟨fun pins s σ H R I h => ?_⟩
  refine thn (hl.run pins s σ H _ I h) fun v s1 ⟨x, H1, I1, r1, q1⟩ => ?_
  obtain ⟨a, e, q1⟩ := q1
  subst e
  cases r1
  rcases q1 with ⟨⟨xs, hq⟩, q⟩ | ⟨⟨xs, hq⟩, q⟩
  · obtain ⟨its, rv, p, hz⟩ := I1.list hq
    refine wpAny_pyIter_list p.isList ?_
    refine ⟨s1.heap.objs.size, [s1.heap.objs.size], _, _, H1, rfl, I1.kept (t' := s1.toks) fun b o e => Heap.get?_push_of_some _ e, turn_list a _, ⟨_, Heap.get?_push_size _ rfl, rfl, rfl⟩, fun b hb => ?_, q⟩
    have e : b = s1.heap.objs.size := by simpa using hb
    subst e
    exact I1.fpOk (Nat.le_refl _) (I1.hok.fresh (Nat.le_refl _))
  · obtain ⟨its, rv, p, hz⟩ := I1.tuple hq
    refine wpAny_pyIter_tuple (show s1.heap.IsTuple a its.toArray from p) ?_
    refine ⟨s1.heap.objs.size, [s1.heap.objs.size], _, _, H1, rfl, I1.kept (t' := s1.toks) fun b o e => Heap.get?_push_of_some _ e, turn_tuple a _, ⟨_, Heap.get?_push_size _ rfl, rfl, rfl⟩, fun b hb => ?_, q⟩
    have e : b = s1.heap.objs.size := by simpa using hb
    subst e
    exact I1.fpOk (Nat.le_refl _) (I1.hok.fresh (Nat.le_refl _))
def iSeq (t : DE) : DI := fun ρ Q => t ρ fun d => match d with
  | .lst ds => Q ds
  | .tup ds => Q ds
  | _ => False
theorem pdi_seq {tg : Expr} (h : PD X e t) : PDI X tg e (iSeq t) := PI.impD (pi_seq h) fun σ H R ⟨ρ, F, Q0, s, en, ht, k⟩ =>
  ⟨ρ, F, _, s, en, ht, fun v H1 F1 d x1 r q => by
    cases d <;> first | exact q.elim | skip
    · cases r with
      | tup h1 ra => exact ⟨_, rfl, .inr ⟨⟨_, x1.sub.seqT h1⟩, k _ H1 F1 _ x1 (it_seq (Sq := fun H ys => SqT X.K H _ ys) ra (fun F' H' m s' => s'.seqT (SqT.same m h1)) (fun _ _ z => z) (fun _ _ _ _ z => z) (fun _ _ z => z)) q⟩⟩
    · cases r with
      | lst h1 ra => exact ⟨_, rfl, .inl ⟨⟨_, .of (x1.sub.lst h1)⟩, k _ H1 F1 _ x1 (it_seq (Sq := fun H ys => SqL X.K H _ ys) ra (fun F' H' m s' => .of (s'.lst (m _ _ h1))) (fun _ _ z => z) (fun _ _ _ _ z => z) (fun _ _ z => z)) q⟩⟩⟩
def rngD (lo : Int) (n : Nat) : List D := (List.range n).map fun (k : Nat) => D.int (lo + (k : Int))
theorem it_rng {K : PySem.W.Frag} {F : Hp} {lo : Int} {n : Nat} : ItOk K (Itr lo n) F (rngD lo n) := fun F' H' m s i => by
  have hl : (rngD lo n).length = n := by simp [rngD]
  rw [hl]
  refine ⟨fun hi => ⟨hi, fun x H'' hy => ?_⟩, fun hi => hi⟩
  obtain ⟨rfl, rfl⟩ := hy
  exact ⟨F', _, .refl s, by simp [rngD, hi], .int _⟩
def iRng1D (t : DA) : DI := fun ρ Q => t ρ fun ds => match ds with
  | [.int j] => (-(2 ^ 62) ≤ j ∧ j < 2 ^ 62) ∧ Q (rngD 0 j.toNat)
  | _ => False
def iRng2D (t : DA) : DI := fun ρ Q => t ρ fun ds => match ds with
  | [.int i, .int j] => (-(2 ^ 62) ≤ i ∧ i < 2 ^ 62 ∧ -(2 ^ 62) ≤ j ∧ j < 2 ^ 62) ∧ Q (rngD i (j - i).toNat)
  | _ => False
theorem pdi_range1 {tg : Expr} {p : Pos} (hm : X.mg "range" = none) (ha : PDA X [a] tr) (hg : Gl X "range" := by rfl) (hs : starEach [a] X.env = [(false, eval a X.env)] := by rfl) : PDI X tg (.Call (.Name "range" p) [a] [] pos) (iRng1D tr) := PI.impD (pi_range1 hg hm ha hs) fun σ H R ⟨ρ, F, Q0, s, en, ht, k⟩ =>
  ⟨ρ, F, _, s, en, ht, fun vs H1 F1 ds x1 r q => by
    cases r with
    | nil => exact q.elim
    | cons r1 r2 =>
      cases r2 with
      | cons _ _ => cases r1 <;> exact q.elim
      | nil =>
        cases r1 <;> first | exact q.elim | skip
        exact ⟨_, rfl, q.1.1, q.1.2, k _ H1 F1 _ x1 it_rng q.2⟩⟩
theorem pdi_range2 {tg : Expr} {p : Pos} (hm : X.mg "range" = none) (ha : PDA X [a, b] tr) (hg : Gl X "range" := by rfl) (hs : starEach [a, b] X.env = [(false, eval a X.env), (false, eval b X.env)] := by rfl) (hs2 : starEach [b] X.env = [(false, eval b X.env)] := by rfl) :
    PDI X tg (.Call (.Name "range" p) [a, b] [] pos) (iRng2D tr) := PI.impD (pi_range2 hg hm ha hs hs2) fun σ H R ⟨ρ, F, Q0, s, en, ht, k⟩ =>
  ⟨ρ, F, _, s, en, ht, fun vs H1 F1 ds x1 r q => by
    cases r with
    | nil => exact q.elim
    | cons r1 r2 =>
      cases r2 with
      | nil => cases r1 <;> exact q.elim
      | cons r2 r3 =>
        cases r3 with
        | cons _ _ => cases r1 <;> first | exact q.elim | (cases r2 <;> exact q.elim)
        | nil =>
          cases r1 <;> first | exact q.elim | skip
          cases r2 <;> first | exact q.elim | skip
          exact ⟨_, _, rfl, q.1, k _ H1 F1 _ x1 it_rng q.2⟩⟩
/-- for over data -/
def forD (g : DG) (b : DS) (N : DN) : List D → List Slot → Prop
  | [], ρ => N.nx ρ
  | d :: ds, ρ => g d ρ fun ρ' => b { N with nx := forD g b N ds, ct := forD g b N ds, bk := N.nx } ρ'
def sFor (it : DI) (g : DG) (b : DS) : DS := fun N ρ => it ρ fun ds => forD g b N ds ρ
theorem drop_cons {α : Type} : ∀ {l : List α} {i : Nat} {d : α}, l[i]? = some d → l.drop i = d :: l.drop (i + 1)
  | [], i, d, h => by simp at h
  | a :: l, 0, d, h => by simp at h; subst h; rfl
  | a :: l, i + 1, d, h => by
    have := drop_cons (l := l) (i := i) (d := d) (by simpa using h)
    simpa using this
theorem Sta.pinned {K : PySem.W.Frag} {F0 H0 G F H : Hp} {σ : St} {ρ : List Slot} (s : Sta K F0 H0 G F σ H ρ) {G' : Hp} (h : Same G' F) : Sta K F0 H0 G' F σ H ρ := ⟨s.bse, h, s.ext, s.env, s.own⟩
theorem pds_for {iter tg : Expr} {body : List Stmt} {it : DI} {g : TG} {g' : DG} {vs : List Nat} (hG : RelG X.K vs g g') (hp : PassesOwn (model X.prog X.w) X.A X.env X.xe) (hc : X.calm = true) (hi : PDI X tg iter it) (hg : PG X tg g) (hb : PDSs X body u)
    (hs : ∀ x, foldedSetIterable iter X.env x = pure x := by intro _; rfl) : PDS X (.For tg iter body [] pos) (sFor it g' u) := (ps_for hp hc hi hg hb hs).impD fun N σ H ⟨F0, H0, G, ρ, M, ⟨F, so⟩, ht, k⟩ => by
  refine ⟨ρ, F, _, so.ext.sub, so.env, ht, fun J H1 F1 ds x1 io q => ?_⟩
  have g1 : Same G F1 := so.pin.trans x1.mono
  refine ⟨fun i m σ' H' => m = ds.length - i ∧ i ≤ ds.length ∧ ∃ ρ', StOk X.K F0 H0 F1 σ' H' ρ' ∧ forD g' u M (ds.drop i) ρ', ⟨ds.length, rfl, Nat.zero_le _, ρ, ⟨F1, (so.step x1).pinned (Same.refl _)⟩, q⟩, fun i m σ' H' hW => ?_⟩
  obtain ⟨rfl, hle, ρ', ⟨F', so'⟩, q'⟩ := hW
  obtain ⟨h1, h2⟩ := io F' H' so'.pin so'.ext.sub i
  have out : ∀ {σ2 H2 ρ2}, StOk X.K F0 H0 F1 σ2 H2 ρ2 → StOk X.K F0 H0 G σ2 H2 ρ2 := fun ⟨F2, s2⟩ => ⟨F2, s2.pinned (g1.trans s2.pin)⟩
  by_cases hi : i < ds.length
  · obtain ⟨go, hy⟩ := h1 hi
    refine .inr ⟨go, fun σ2 H2 => ∃ ρ2, StOk X.K F0 H0 F1 σ2 H2 ρ2 ∧ forD g' u M (ds.drop (i + 1)) ρ2, fun σ2 H2 ⟨ρ2, s2, q2⟩ => ⟨ds.length - (i + 1), by omega, rfl, hi, ρ2, s2, q2⟩, fun x H2 hyx => ?_⟩
    obtain ⟨F2, d, x2, ed, rd⟩ := hy x H2 hyx
    rw [drop_cons ed] at q'
    have so2 := so'.step x2
    refine hG _ _ _ _ _ _ _ _ _ _ _ so2 rd q' fun σ3 ρ3 s3 _ q3 => ?_
    exact ⟨F0, H0, F1, ρ3, _, ⟨F2, s3⟩, q3, fun σ4 H4 ρ4 s4 q4 => ⟨ρ4, s4, q4⟩, k.rt, k.ro, fun σ4 H4 ρ4 s4 q4 => k.nx _ _ _ (out s4) q4, fun σ4 H4 ρ4 s4 q4 => ⟨ρ4, s4, q4⟩⟩
  · exact .inl ⟨h2 (by omega), by
      have e : ds.drop i = [] := List.drop_eq_nil_of_le (by omega)
      rw [e] at q'
      exact k.nx _ _ _ (out ⟨F', so'⟩) q'⟩
def sWhile (c : DT) (b : DS) : DS := fun N ρ => ∃ I : Nat → List Slot → Prop, (∃ m, I m ρ) ∧ ∀ m ρ, I m ρ → c ρ fun k =>
  if k = true then b { N with nx := fun ρ' => ∃ m', m' < m ∧ I m' ρ', ct := fun ρ' => ∃ m', m' < m ∧ I m' ρ', bk := N.nx } ρ else N.nx ρ
theorem pds_while {body : List Stmt} (hp : PassesOwn (model X.prog X.w) X.A X.env X.xe) (hc : PDT X c tA) (hb : PDSs X body u) : PDS X (.While c body [] pos) (sWhile tA u) := (ps_while hp hc hb).impD fun N σ H ⟨F0, H0, G, ρ, M, so, ⟨I, ⟨m, hm⟩, ht⟩, k⟩ => by
  refine ⟨fun m σ' H' => ∃ ρ', StOk X.K F0 H0 G σ' H' ρ' ∧ I m ρ', ⟨m, ρ, so, hm⟩, fun m σ' H' ⟨ρ', ⟨F', s'⟩, hI⟩ => ?_⟩
  refine s'.lfT (ht m ρ' hI) fun b H2 F2 s2 q => ?_
  cases b with
  | true =>
    refine iteT ⟨fun σ2 H2 => ∃ ρ2, StOk X.K F0 H0 G σ2 H2 ρ2 ∧ ∃ m', m' < m ∧ I m' ρ2, fun σ2 H2 ⟨ρ2, s3, m', hm', hI'⟩ => ⟨m', hm', ρ2, s3, hI'⟩, F0, H0, G, ρ', _, ⟨F2, s2⟩, q, fun σ4 H4 ρ4 s4 q4 => ⟨ρ4, s4, q4⟩, k.rt, k.ro, fun σ4 H4 ρ4 s4 q4 => k.nx _ _ _ s4 q4, fun σ4 H4 ρ4 s4 q4 => ⟨ρ4, s4, q4⟩⟩
  | false => exact iteF (k.nx _ _ _ ⟨F2, s2⟩ q)

/-! ### lists of one's own -/
theorem Sta.setOwn {K : PySem.W.Frag} {F0 H0 G F H : Hp} {σ : St} {ρ : List Slot} (s : Sta K F0 H0 G F σ H ρ) (i : Nat) {p : Addr} {xs : List V} {ds : List D} (hp : H p = none) (r : RpA K F xs ds) : Sta K F0 H0 G F (σ.set i (some (.ref p))) (upd H p (.lst xs)) (ρ.set i (.own (.lst ds))) := by
  have x : Ext F H F (upd H p (.lst xs)) := Ext.newO s.ext.sub hp
  have h0 : H0 p = none := by
    cases e : H0 p with
    | none => rfl
    | some o =>
      cases f : F0 p with
      | none =>
        have := (s.ext.keep p o f e).1
        rw [hp] at this; cases this
      | some o' =>
        obtain ⟨u, q⟩ := (s.ext.sub p o' (s.ext.mono p o' f)).there
        rw [hp] at q; cases q
  have en := s.env.mono x
  refine ⟨s.bse, s.pin, s.ext.trans x, ⟨by simp [en.len], fun j sl e => ?_, fun a b q d e hab h1 h2 h3 h4 => ?_⟩, fun j q d h1 h2 => ?_⟩
  · by_cases hj : j = i
    · subst hj
      have hl : j < ρ.length := by
        have := (List.getElem?_eq_some_iff.mp e).1
        simpa using this
      rw [List.getElem?_set_self hl] at e
      cases e
      exact ⟨_, by rw [List.getElem?_set_self (by rw [en.len]; exact hl)], p, rfl, s.ext.sub.none hp, xs, upd_same, r⟩
    · rw [List.getElem?_set_ne (Ne.symm hj)] at e ⊢
      exact en.at_ j sl e
  · have old : ∀ {j : Nat} {q : Addr} {d : D}, j ≠ i → (σ.set i (some (V.ref p)))[j]? = some (some (.ref q)) → (ρ.set i (Slot.own (.lst ds)))[j]? = some (Slot.own d) → q ≠ p := fun {j q d} hj h1 h2 z => by
      rw [List.getElem?_set_ne (Ne.symm hj)] at h1 h2
      obtain ⟨x, e1, p', e2, _, o⟩ := s.env.at_ j _ h2
      rw [h1] at e1; cases e1; cases e2
      obtain ⟨u, hu⟩ := o.there
      rw [z, hp] at hu; cases hu
    have self : ∀ {q : Addr}, (σ.set i (some (V.ref p)))[i]? = some (some (.ref q)) → q = p := fun {q} h => by
      have hl : i < (σ.set i (some (V.ref p))).length := (List.getElem?_eq_some_iff.mp h).1
      rw [List.getElem?_set_self (by simpa using hl)] at h
      cases h; rfl
    by_cases ha : a = i
    · subst ha
      have e1 := self h1
      exact old (Ne.symm hab) h3 h4 e1
    · by_cases hb : b = i
      · subst hb
        exact old ha h1 h2 (self h3)
      · rw [List.getElem?_set_ne (Ne.symm ha)] at h1 h2
        rw [List.getElem?_set_ne (Ne.symm hb)] at h3 h4
        exact s.env.sep a b q d e hab h1 h2 h3 h4
  · by_cases hj : j = i
    · subst hj
      have hl : j < (σ.set j (some (V.ref p))).length := (List.getElem?_eq_some_iff.mp h1).1
      rw [List.getElem?_set_self (by simpa using hl)] at h1
      cases h1
      exact h0
    · rw [List.getElem?_set_ne (Ne.symm hj)] at h1 h2
      exact s.own j q d h1 h2
/-- x = [..], x to grow -/
def sOwn (i : Nat) (t : DA) : DS := fun N ρ => t ρ fun ds => ds.length ≤ sizeLine ∧ N.nx (ρ.set i (.own (.lst ds)))
theorem pds_own {i : Nat} {x : Str} {pos' p2 : Pos} (hN : X.N.Nodup) (hi : X.N[i]? = some x) (hx : Loc X.env.scope x) (he : PDA X es tr) (hs : swapsWith (.List es p2) (some (.Name x pos')) pos.line X.env = pure false := by rfl)
    (hf : X.fn x = true ∨ X.env.scope.names.lookup x = some .local := by first | exact .inl rfl | exact .inr rfl | assumption) : PDS X (.Assign [.Name x pos'] (.List es p2) pos) (sOwn i tr) := (ps_set hN hi hx (pe_lst he) hs hf).impD fun N σ H ⟨F0, H0, G, ρ, M, ⟨F, so⟩, ht, k⟩ =>
  so.lfA ht fun vs H' F' ds so' r q => ⟨by rw [r.length]; exact q.1, fun p hp => k.nx _ _ _ ⟨F', so'.setOwn i hp r⟩ q.2⟩
/-- an own list is changed -/
theorem Sta.putOwn {K : PySem.W.Frag} {F0 H0 G F H : Hp} {σ : St} {ρ : List Slot} (s : Sta K F0 H0 G F σ H ρ) {i : Nat} {p : Addr} {d : D} {xs : List V} {ds : List D} (h1 : σ[i]? = some (some (.ref p))) (h2 : ρ[i]? = some (.own d)) (r : RpA K F xs ds) :
    Sta K F0 H0 G F σ (upd H p (.lst xs)) (ρ.set i (.own (.lst ds))) := by
  obtain ⟨x, e1, p', e2, hF, o⟩ := s.env.at_ i _ h2
  rw [h1] at e1; cases e1; cases e2
  have h0 := s.own i p d h1 h2
  have hl : i < ρ.length := (List.getElem?_eq_some_iff.mp h2).1
  refine ⟨s.bse, s.pin, ⟨s.ext.mono, fun a o' e q => ?_, Ext.own s.ext.sub hF⟩, ⟨by simp [s.env.len], fun j sl e => ?_, fun a b q d' e' hab a1 a2 a3 a4 => ?_⟩, fun j q d' a1 a2 => ?_⟩
  · rw [upd_ne (ne_of_none q h0)]
    exact s.ext.keep a o' e q
  · by_cases hj : j = i
    · subst hj
      rw [List.getElem?_set_self hl] at e
      cases e
      exact ⟨_, h1, p, rfl, hF, xs, upd_same, r⟩
    · rw [List.getElem?_set_ne (Ne.symm hj)] at e
      obtain ⟨x, e1, ok⟩ := s.env.at_ j sl e
      refine ⟨x, e1, ?_⟩
      cases sl with
      | un => trivial
      | v d => exact ok
      | tg u d => exact ok
      | own d' =>
        obtain ⟨p2, e2, hF2, o2⟩ := ok
        refine ⟨p2, e2, hF2, o2.mono (Same.refl F) fun u q => ?_⟩
        have : p2 ≠ p := fun z => by
          subst z
          exact s.env.sep j i p2 d' d hj (by rw [e1, e2]) e h1 h2
        rw [upd_ne this]; exact q
  · have own : ∀ {j : Nat} {d : D}, (ρ.set i (Slot.own (.lst ds)))[j]? = some (.own d) → ∃ d', ρ[j]? = some (Slot.own d') := fun {j d} h => by
      by_cases hj : j = i
      · exact ⟨_, by rw [hj]; exact h2⟩
      · rw [List.getElem?_set_ne (Ne.symm hj)] at h
        exact ⟨_, h⟩
    obtain ⟨d1, b2⟩ := own a2
    obtain ⟨d2, b4⟩ := own a4
    exact s.env.sep a b q d1 d2 hab a1 b2 a3 b4
  · by_cases hj : j = i
    · subst hj
      rw [h1] at a1; cases a1
      exact h0
    · rw [List.getElem?_set_ne (Ne.symm hj)] at a2
      exact s.own j q d' a1 a2
/-- x.append(e), x a list of one's own -/
def sAppend (i : Nat) (t : DE) : DS := fun N ρ => match ρ[i]? with
  | some (.own (.lst ds)) => t ρ fun d => ds.length < sizeLine ∧ N.nx (ρ.set i (.own (.lst (ds ++ [d]))))
  | _ => False
theorem pds_append {i : Nat} {o : Expr} {apos cpos : Pos} (h : PE X (.Call (.Attribute o "append" apos) [e] [] cpos) (tBM X.K "list" rAppend (tVar i) (tCons (lfE X.K t) tNil)))
    (hs : swapsWith (.Call (.Attribute o "append" apos) [e] [] cpos) none pos.line X.env = pure false := by rfl) : PDS X (.Expr (.Call (.Attribute o "append" apos) [e] [] cpos) pos) (sAppend i t) :=
  (ps_expr h hs).impD fun N σ H ⟨F0, H0, G, ρ, M, ⟨F, so⟩, ht, k⟩ => by
    unfold sAppend at ht
    cases hi : ρ[i]? with
    | none => rw [hi] at ht; exact ht.elim
    | some sl =>
      rw [hi] at ht
      cases sl with
      | un => exact ht.elim
      | v d => exact ht.elim
      | tg u d => exact ht.elim
      | own d =>
        cases d <;> first | exact ht.elim | skip
        rename_i ds
        obtain ⟨x, e1, p, e2, hF, xs, hp, r⟩ := so.env.at_ i _ hi
        subst e2
        refine ⟨_, e1, .inl ⟨rfl, _, .inl (.inl hp)⟩, so.lf ht fun v H' F' d so' rv q => ?_⟩
        obtain ⟨x, e3, p', e4, hF', xs', hp', r'⟩ := so'.env.at_ i _ hi
        rw [e1] at e3; cases e3; cases e4
        refine ⟨p, xs', v, rfl, rfl, hp', by rw [r'.length]; exact q.1, ?_⟩
        exact k.nx _ _ _ ⟨F', so'.putOwn e1 hi (r'.append (.cons rv .nil))⟩ q.2
end
end DV

namespace DV
open PySem PySem.Spec PyProof.Rows L2

/-! ### defs and their calls -/
def spD (K : PySem.W.Frag) (f : DSp) : Sp := fun vs H Q _ => ∃ F ds Q0, Sub F H ∧ RpA K F vs ds ∧ f ds Q0 ∧ ∀ v H' F' d, Ext F H F' H' → Rp K F' v d → Q0 d → Q v H'
def isLst : D → Bool
  | .lst _ => true
  | _ => false
def roL (Q : D → Prop) (d : D) : Prop := isLst d = true ∧ Q d
/-- a def of m parameters, n names -/
def fnD (n m : Nat) (t : DS) : DSp := fun ds Q => ds.length = m ∧ t ⟨fun _ => Q .non, Q, fun _ => False, fun _ => False, roL Q⟩ (ds.map Slot.v ++ List.replicate (n - m) Slot.un)
theorem env_start {K : PySem.W.Frag} {F H : Hp} {N : List Str} {vs : List V} {ds : List D} (r : RpA K F vs ds) : EnvOk K F H (L2.start N vs) (ds.map Slot.v ++ List.replicate (N.length - ds.length) Slot.un) := by
  have hl := r.length
  have get : ∀ (i : Nat) s, (ds.map Slot.v ++ List.replicate (N.length - ds.length) Slot.un)[i]? = some s → (∃ d, ds[i]? = some d ∧ s = .v d) ∨ s = .un := fun i s e => by
    by_cases hi : i < ds.length
    · rw [List.getElem?_append_left (by simpa using hi), List.getElem?_map] at e
      obtain ⟨d, e1, e2⟩ := Option.map_eq_some_iff.mp e
      exact .inl ⟨d, e1, e2.symm⟩
    · rw [List.getElem?_append_right (by simp; omega)] at e
      exact .inr (List.mem_replicate.mp (List.mem_of_getElem? e)).2
  refine ⟨by simp [L2.start, hl], fun i s e => ?_, fun i j p d e hij h1 h2 h3 h4 => ?_⟩
  · have hi : i < (L2.start N vs).length := by
      have := (List.getElem?_eq_some_iff.mp e).1
      simp [L2.start] at this ⊢
      omega
    refine ⟨_, List.getElem?_eq_getElem hi, ?_⟩
    rcases get i s e with ⟨d, e1, rfl⟩ | rfl
    · obtain ⟨v, e2, r1⟩ := r.get e1
      refine ⟨v, ?_, r1⟩
      have hv : i < vs.length := (List.getElem?_eq_some_iff.mp e2).1
      have e3 : (L2.start N vs)[i]? = some (some v) := by
        unfold L2.start
        rw [List.getElem?_append_left (by simpa using hv), List.getElem?_map, e2]
        rfl
      rw [List.getElem?_eq_getElem hi] at e3
      exact Option.some.inj e3
    · trivial
  · rcases get i _ h2 with ⟨d', _, z⟩ | z <;> cases z
section
variable {P : Program} {w : World} {K : PySem.W.Frag} {mg : Str → Option Value} {base : Heap}
theorem fn_okD {x qual : Str} {params : Arguments} {body : List Stmt} {scope : Scope} {dvs : List V} {kws : List (Str × V)} {f : Addr} {fd : FuncData} {N ps : List Str} {k : Nat} {t : DS}
    (F : FunD K x qual params body scope dvs kws f fd) (S : FnScope N ps scope)
    (hb : ∀ (cdv : Value) (A : Around) (outer : List Env) (s : Shared) (H : Hp) (E : XK), Room k (A.deeper (envOfC qual scope s.heap.objs.size f cdv)) → PDSs (cxOf CX0 P w K mg base N qual scope f cdv A outer s H E).nox body t) :
    FnOk P w K mg base CX0 (k + 1) f fd ps (spD K (fnD N.length ps.length t)) := by
  refine F.ok S (fun vs H Q E h => ?_) (fun cdv A outer s H vs Q E hr h => ⟨_, PSs.nox (hb cdv A outer s H E hr), ?_⟩)
  · obtain ⟨F, ds, Q0, _, r, h, _⟩ := h
    rw [r.length]; exact h.1
  · obtain ⟨F, ds, Q0, sb, r, h, q⟩ := h
    have en : EnvOk K F H (L2.start N vs) (ds.map Slot.v ++ List.replicate (N.length - ds.length) Slot.un) := env_start r
    rw [h.1] at en
    refine ⟨F, H, F, _, _, ⟨F, ⟨sb, Same.refl F, .refl sb, en, fun i p d h1 h2 => ?_⟩⟩, h.2, ⟨fun σ' H' ρ' ⟨F', s'⟩ z => q .non H' F' .non s'.ext .non z, fun v H' F' d x r z => q v H' F' d x r z, fun p d H' F' x h0 hF o z => (by
      cases d <;> first | (simp [roL, isLst] at z; done) | skip
      obtain ⟨xs, hp, r⟩ := o
      exact q (.ref p) H' (upd F' p (.lst xs)) _ (x.adopt h0 hF hp) (.lst upd_same (r.mono fun b o e => by rw [upd_ne (ne_of_none e hF)]; exact e)) z.2), fun _ _ _ _ z => z.elim, fun _ _ _ _ z => z.elim⟩⟩
    have hm := List.mem_of_getElem? h2
    rcases List.mem_append.mp hm with z | z
    · obtain ⟨d', _, z⟩ := List.mem_map.mp z
      cases z
    · cases (List.mem_replicate.mp z).2
end
/-- a def of the module as its callers see it: dd its defaults that are left to it -/
def Gd (P : Program) (w : World) (K : PySem.W.Frag) (mg : Str → Option Value) (base : Heap) (nm : Str) (k : Nat) (dd : List D) (f : DSp) : Prop :=
  ∃ (a : Addr) (fd : FuncData) (ps : List Str) (ds : List Value) (dvs : List V), mg nm = some (.ref a) ∧ PySem.W.keepIn K (.ref a) = true ∧ FnOk P w K mg base CX0 k a fd ps (spD K f) ∧ Binds K fd ps ds ∧ Vals dvs ds ∧ ∀ F, RpA K F dvs dd
section
variable {X : Cx} {e a b c : Expr} {es : List Expr} {t ta tb tc : DE} {tr : DA} {pos p : Pos} {nm : Str} {k : Nat} {dd : List D} {f : DSp}
def dCall (f : DSp) (dd : List D) (tr : DA) : DE := fun ρ Q => tr ρ fun ds => f (ds ++ dd) Q
theorem pd_call (G : Gd X.prog X.w X.K X.mg X.base nm k dd f) (hr : Room k X.A) (ha : PDA X (e :: es) tr) (hg : Gl X nm := by rfl) (hdb : (nm == ("__debug__" : Str)) = false := by decide)
    (he : starEach (e :: es) X.env = (false, eval e X.env) :: starEach es X.env := by rfl) (hpl : (backTo pos (starEach es X.env)).any (·.1) = false := by rfl) : PD X (.Call (.Name nm p) (e :: es) [] pos) (dCall f dd tr) := by
  obtain ⟨a, fd, ps, ds, dvs, hm, hk, F, hb, hd, hdd⟩ := G
  refine (pe_call F hr hg hm hk hb hd pass0 ha hdb he hpl).impD fun σ H Q ⟨ρ, F, Q0, s, en, ht, k⟩ => ⟨ρ, F, _, s, en, ht, fun vs H1 F1 ds x1 r q => ?_⟩
  exact ⟨F1, _, Q0, x1.sub, r.append (hdd F1), q, fun v H' F' d x2 r2 q2 => k v H' F' d (x1.trans x2) r2 q2⟩

/-! ### built-in functions -/
abbrev DF := List D → (D → Prop) → Prop
def CallD (K : PySem.W.Frag) (r : List V → Hp → VK → Prop) (g : DF) : Prop := ∀ (F H : Hp) (xs : List V) (ds : List D) (Q0 : D → Prop) (Q : VK), Sub F H → RpA K F xs ds → g ds Q0 → (∀ v H' F' d, Ext F H F' H' → Rp K F' v d → Q0 d → Q v H') → r xs H Q
def dB (g : DF) (tr : DA) : DE := fun ρ Q => tr ρ fun ds => g ds Q
theorem lf_cb {K : PySem.W.Frag} {r : List V → Hp → VK → Prop} {g : DF} (h : CallD K r g) : ∀ σ H Q, lfE K (dB g tr) σ H Q → tCB r (lfA K tr) σ H Q := fun σ H Q ⟨ρ, F, Q0, s, en, ht, k⟩ =>
  ⟨ρ, F, _, s, en, ht, fun vs H1 F1 ds x1 r q => h F1 H1 vs ds Q0 Q x1.sub r q fun v H' F' d x2 r2 q2 => k v H' F' d (x1.trans x2) r2 q2⟩
theorem pd_cb {id : String} {r : List V → Hp → VK → Prop} {g : DF} (hc : CallR X (.builtin id) r) (h : CallD X.K r g) (hm : X.mg nm = none) (hv : bootBuiltins nm = some (.builtin id)) (ha : PDA X (e :: es) tr) (hg : Gl X nm := by rfl) (hn : nm ≠ "__name__" := by decide) (hdb : (nm == ("__debug__" : Str)) = false := by decide)
    (he : starEach (e :: es) X.env = (false, eval e X.env) :: starEach es X.env := by rfl) (hpl : (backTo pos (starEach es X.env)).any (·.1) = false := by rfl) : PD X (.Call (.Name nm p) (e :: es) [] pos) (dB g tr) := by
  refine PE.impD (t := tCB r (lfA X.K tr)) ?_ (lf_cb h)
  exact pe_callB hc hg hm hv ha hn hdb he hpl
theorem pd_ct {T : String} {r : List V → Hp → VK → Prop} {g : DF} (hc : CallR X (.type T) r) (h : CallD X.K r g) (hm : X.mg nm = none) (hv : bootBuiltins nm = some (.type T)) (ha : PDA X (e :: es) tr) (hg : Gl X nm := by rfl) (hn : nm ≠ "__name__" := by decide) (hdb : (nm == ("__debug__" : Str)) = false := by decide)
    (he : starEach (e :: es) X.env = (false, eval e X.env) :: starEach es X.env := by rfl) (hpl : (backTo pos (starEach es X.env)).any (·.1) = false := by rfl) : PD X (.Call (.Name nm p) (e :: es) [] pos) (dB g tr) := by
  refine PE.impD (t := tCB r (lfA X.K tr)) ?_ (lf_cb h)
  exact pe_callTy hc hg hm hv ha hn hdb he hpl
def absD : DF
  | [.int i], Q => Q (.int (if i < 0 then -i else i))
  | _, _ => False
theorem cd_abs {K : PySem.W.Frag} : CallD K (fun xs H Q => ∃ i, xs = [.int i] ∧ Q (.int (if i < 0 then -i else i)) H) absD := fun F H xs ds Q0 Q s r q k => by
  cases r with
  | nil => exact q.elim
  | cons r1 r2 => cases r2 with
    | cons _ _ => cases r1 <;> exact q.elim
    | nil =>
      cases r1 <;> first | exact q.elim | skip
      exact ⟨_, rfl, k _ H F _ (.refl s) (.int _) q⟩
def intC : DF
  | [.int i], Q => Q (.int i)
  | [.bl b], Q => Q (.int (if b then 1 else 0))
  | _, _ => False
theorem cd_int {K : PySem.W.Frag} : CallD K (fun xs H Q => (∃ i, xs = [.int i] ∧ Q (.int i) H) ∨ ∃ k, xs = [.bl k] ∧ Q (.int (if k then 1 else 0)) H) intC := fun F H xs ds Q0 Q s r q k => by
  cases r with
  | nil => exact q.elim
  | cons r1 r2 => cases r2 with
    | cons _ _ => cases r1 <;> exact q.elim
    | nil =>
      cases r1 <;> first | exact q.elim | skip
      · exact .inr ⟨_, rfl, k _ H F _ (.refl s) (.int _) q⟩
      · exact .inl ⟨_, rfl, k _ H F _ (.refl s) (.int _) q⟩
def lenD : DF
  | [.lst ds], Q => Q (.int ds.length)
  | [.tup ds], Q => Q (.int ds.length)
  | [.str x], Q => x.length ≤ sizeLine ∧ Q (.int x.length)
  | _, _ => False
theorem cd_len {K : PySem.W.Frag} : CallD K (fun xs H Q => ∃ x n, xs = [x] ∧ LenV K x H n ∧ Q (.int n) H) lenD := fun F H xs ds Q0 Q s r q k => by
  cases r with
  | nil => exact q.elim
  | cons r1 r2 => cases r2 with
    | cons _ _ => cases r1 <;> exact q.elim
    | nil =>
      cases r1 <;> first | exact q.elim | skip
      · exact ⟨_, _, rfl, ⟨q.1, rfl⟩, k _ H F _ (.refl s) (.int _) q.2⟩
      · rename_i h ra
        refine ⟨_, _, rfl, .inr ⟨_, s.seqT h, rfl⟩, ?_⟩
        rw [ra.length]
        exact k _ H F _ (.refl s) (.int _) q
      · rename_i h ra
        refine ⟨_, _, rfl, .inl ⟨_, .of (s.lst h), rfl⟩, ?_⟩
        rw [ra.length]
        exact k _ H F _ (.refl s) (.int _) q
def max2D : DF
  | [.int i, .int j], Q => Q (.int (if j > i then j else i))
  | _, _ => False
def min2D : DF
  | [.int i, .int j], Q => Q (.int (if j < i then j else i))
  | _, _ => False
theorem cd_max2 {K : PySem.W.Frag} : CallD K (fun xs H Q => ∃ i j, xs = [.int i, .int j] ∧ Q (.int (if j > i then j else i)) H) max2D := fun F H xs ds Q0 Q s r q k => by
  rcases r with _ | ⟨r1, _ | ⟨r2, _ | ⟨_, _⟩⟩⟩ <;> first | exact q.elim | (cases r1 <;> exact q.elim) | (cases r1 <;> cases r2 <;> exact q.elim) | skip
  cases r1 <;> first | exact q.elim | skip
  cases r2 <;> first | exact q.elim | skip
  exact ⟨_, _, rfl, k _ H F _ (.refl s) (.int _) q⟩
theorem cd_min2 {K : PySem.W.Frag} : CallD K (fun xs H Q => ∃ i j, xs = [.int i, .int j] ∧ Q (.int (if j < i then j else i)) H) min2D := fun F H xs ds Q0 Q s r q k => by
  rcases r with _ | ⟨r1, _ | ⟨r2, _ | ⟨_, _⟩⟩⟩ <;> first | exact q.elim | (cases r1 <;> exact q.elim) | (cases r1 <;> cases r2 <;> exact q.elim) | skip
  cases r1 <;> first | exact q.elim | skip
  cases r2 <;> first | exact q.elim | skip
  exact ⟨_, _, rfl, k _ H F _ (.refl s) (.int _) q⟩
def listD : DF
  | [.lst ds], Q => Q (.lst ds)
  | [.tup ds], Q => Q (.lst ds)
  | _, _ => False
theorem cd_list {K : PySem.W.Frag} : CallD K (fun xs H Q => ∃ p ys, xs = [.ref p] ∧ (SqL K H p ys ∨ SqT K H p ys) ∧ ∀ l, H l = none → Q (.ref l) (upd H l (.lst ys))) listD := fun F H xs ds Q0 Q s r q k => by
  rcases r with _ | ⟨r1, _ | ⟨_, _⟩⟩ <;> first | exact q.elim | (cases r1 <;> exact q.elim) | skip
  cases r1 <;> first | exact q.elim | skip
  · rename_i h ra
    refine ⟨_, _, rfl, .inr (s.seqT h), fun l hl => ?_⟩
    exact k _ _ _ _ (Ext.newL s hl) (.lst upd_same (ra.mono (Ext.newL s hl).mono)) q
  · rename_i h ra
    refine ⟨_, _, rfl, .inl (.of (s.lst h)), fun l hl => ?_⟩
    exact k _ _ _ _ (Ext.newL s hl) (.lst upd_same (ra.mono (Ext.newL s hl).mono)) q
def tupleD : DF
  | [.lst ds], Q => Q (.tup ds)
  | [.tup ds], Q => Q (.tup ds)
  | _, _ => False
theorem cd_tuple {K : PySem.W.Frag} : CallD K (fun xs H Q => ∃ p ys, xs = [.ref p] ∧ ((SqL K H p ys ∧ ∀ l, H l = none → Q (.ref l) (upd H l (.tup ys))) ∨ (SqT K H p ys ∧ Q (.ref p) H))) tupleD := fun F H xs ds Q0 Q s r q k => by
  rcases r with _ | ⟨r1, _ | ⟨_, _⟩⟩ <;> first | exact q.elim | (cases r1 <;> exact q.elim) | skip
  cases r1 <;> first | exact q.elim | skip
  · rename_i h ra
    exact ⟨_, _, rfl, .inr ⟨s.seqT h, k _ H F _ (.refl s) (.tup h ra) q⟩⟩
  · rename_i h ra
    refine ⟨_, _, rfl, .inl ⟨.of (s.lst h), fun l hl => ?_⟩⟩
    exact k _ _ _ _ (Ext.newT s hl) (.tup (.inl (.inl upd_same)) (ra.mono (Ext.newT s hl).mono)) q
def isT : D → Bool
  | .bl b => b
  | _ => false
def isB : D → Bool
  | .bl _ => true
  | _ => false
theorem bools_of {K : PySem.W.Frag} {F : Hp} : ∀ {vs : List V} {ds : List D}, RpA K F vs ds → ds.all isB = true → vs = (ds.map isT).map V.bl
  | _, _, .nil, _ => rfl
  | _, _, .cons h r, q => by
    simp only [List.all_cons, Bool.and_eq_true] at q
    have ih := bools_of r q.2
    cases h <;> first | (rw [ih]; rfl) | (exact absurd q.1 (by simp [isB]))
def allD : DF
  | [.lst ds], Q => ds.all isB = true ∧ Q (.bl (ds.all isT))
  | _, _ => False
def anyD : DF
  | [.lst ds], Q => ds.all isB = true ∧ Q (.bl (ds.any isT))
  | _, _ => False
theorem cd_all {K : PySem.W.Frag} : CallD K (rAll K) allD := fun F H xs ds Q0 Q s r q k => by
  rcases r with _ | ⟨r1, _ | ⟨_, _⟩⟩ <;> first | exact q.elim | (cases r1 <;> exact q.elim) | skip
  cases r1 <;> first | exact q.elim | skip
  rename_i h ra
  have e := bools_of ra q.1
  refine ⟨_, _, rfl, .of (by rw [s.lst h, e]), ?_⟩
  rw [List.all_map]
  exact k _ H F _ (.refl s) (.bl _) q.2
theorem cd_any {K : PySem.W.Frag} : CallD K (rAny K) anyD := fun F H xs ds Q0 Q s r q k => by
  rcases r with _ | ⟨r1, _ | ⟨_, _⟩⟩ <;> first | exact q.elim | (cases r1 <;> exact q.elim) | skip
  cases r1 <;> first | exact q.elim | skip
  rename_i h ra
  have e := bools_of ra q.1
  refine ⟨_, _, rfl, .of (by rw [s.lst h, e]), ?_⟩
  rw [List.any_map]
  exact k _ H F _ (.refl s) (.bl _) q.2

/-! ### items, slices -/
def ixD : D2 := fun x y Q => match x, y with
  | .tup ds, .int i => (match atI ds i with
    | some d => Q d
    | none => False)
  | .lst ds, .int i => (match atI ds i with
    | some d => Q d
    | none => False)
  | _, _ => False
theorem RpA.atI {K : PySem.W.Frag} {F : Hp} {xs : List V} {ds : List D} {i : Int} {d : D} (r : RpA K F xs ds) (h : L2.atI ds i = some d) : ∃ v, L2.atI xs i = some v ∧ Rp K F v d := by
  unfold L2.atI at h ⊢
  rw [r.length]
  cases e : ixN ds.length i with
  | none => rw [e] at h; cases h
  | some j =>
    rw [e] at h
    exact r.get h
theorem od_ix {K : PySem.W.Frag} : OpD K (fun x y H Q => rIxL K x y H Q ∨ rIxT K x y H Q) ixD := fun F H x y dx dy Q0 Q s rx ry q k => by
  cases rx <;> cases ry <;> first | exact q.elim | skip
  · rename_i ds h ra i
    have q' : (match L2.atI ds i with
      | some d => Q0 d
      | none => False) := q
    cases e : L2.atI ds i with
    | none => rw [e] at q'; exact q'.elim
    | some d =>
      rw [e] at q'
      obtain ⟨v, ev, rv⟩ := ra.atI e
      exact .inr ⟨_, _, _, _, rfl, rfl, s.seqT h, ev, k _ H F _ (.refl s) rv q'⟩
  · rename_i ds h ra i
    have q' : (match L2.atI ds i with
      | some d => Q0 d
      | none => False) := q
    cases e : L2.atI ds i with
    | none => rw [e] at q'; exact q'.elim
    | some d =>
      rw [e] at q'
      obtain ⟨v, ev, rv⟩ := ra.atI e
      exact .inl ⟨_, _, _, _, rfl, rfl, .of (s.lst h), ev, k _ H F _ (.refl s) rv q'⟩
theorem pd_item (ha : PD X a ta) (hb : PD X b tb) (hs : PlainIx b := by exact fun _ _ => rfl) : PD X (.Subscript a b pos) (dOp ixD ta tb) := pd_ix (ix_list.or ix_tup) od_ix ha hb hs
/-- a part of a slice -/
abbrev DO := List Slot → (Option Int → Prop) → Prop
def lfO (K : PySem.W.Frag) (t : DO) : TO := fun σ H Q => ∃ ρ F Q0, Sub F H ∧ EnvOk K F H σ ρ ∧ t ρ Q0 ∧ ∀ o H' F', Ext F H F' H' → Q0 o → Q o H'
def PDO (X : Cx) (o : Option Expr) (t : DO) : Prop := PO X o (lfO X.K t)
theorem _root_.L2.PO.impD {o : Option Expr} {t t' : TO} (h : PO X o t) (i : ∀ σ H Q, t' σ H Q → t σ H Q) : PO X o t' := ⟨fun p s σ H Q I q => h.run p s σ H Q I (i _ _ _ q)⟩
def dNo : DO := fun _ Q => Q none
def dPart (t : DE) : DO := fun ρ Q => t ρ fun d => match d with
  | .int i => Q (some i)
  | _ => False
theorem pdo_none : PDO X none dNo := po_none.impD fun σ H Q ⟨ρ, F, Q0, s, en, ht, k⟩ => k _ H F (.refl s) ht
theorem pdo_some (h : PD X e t) : PDO X (some e) (dPart t) := (po_some h).impD fun σ H Q ⟨ρ, F, Q0, s, en, ht, k⟩ => ⟨ρ, F, _, s, en, ht, fun v H1 F1 d x1 r q => by
  cases r <;> first | exact q.elim | skip
  exact ⟨_, rfl, k _ H1 F1 x1 q⟩⟩
def cutD (xs : List D) (lo hi : Option Int) : List D := (xs.drop (HT.sIx xs.length 0 lo)).take (HT.sIx xs.length xs.length hi - HT.sIx xs.length 0 lo)
def slD (x : D) (lo hi : Option Int) (Q : D → Prop) : Prop := match x with
  | .tup ds => ¬ (HT.sIx ds.length 0 lo = 0 ∧ HT.sIx ds.length ds.length hi = ds.length) ∧ Q (.tup (cutD ds lo hi))
  | .lst ds => Q (.lst (cutD ds lo hi))
  | _ => False
def dSl (t : DE) (l h : DO) : DE := fun ρ Q => t ρ fun x => l ρ fun lo => h ρ fun hi => slD x lo hi Q
theorem RpA.cut {K : PySem.W.Frag} {F : Hp} {xs : List V} {ds : List D} (r : RpA K F xs ds) (lo hi : Option Int) : RpA K F (cutV xs lo hi) (cutD ds lo hi) := by
  unfold cutV cutD
  rw [r.length]
  exact (r.drop _).take _
theorem pd_slice {lo hi : Option Expr} {l h : DO} {p2 : Pos} (he : PD X e t) (hl : PDO X lo l) (hh : PDO X hi h) : PD X (.Subscript e (.Slice lo hi none p2) pos) (dSl t l h) := (pe_slice (SlR.or sl_tup sl_list) he hl hh).impD fun σ H Q ⟨ρ, F, Q0, s, en, ht, k⟩ =>
  ⟨ρ, F, _, s, en, ht, fun v H1 F1 d x1 r q => ⟨ρ, F1, _, x1.sub, en.mono x1, q, fun o H2 F2 x2 q2 => ⟨ρ, F2, _, x2.sub, en.mono (x1.trans x2), q2, fun o' H3 F3 x3 q3 => by
    have r3 := r.mono (x2.mono.trans x3.mono)
    have xx := (x1.trans x2).trans x3
    cases r3 <;> first | exact q3.elim | skip
    · rename_i h ra
      refine .inl ⟨_, _, rfl, x3.sub.seqT h, by rw [ra.length]; exact q3.1, fun p hp => ?_⟩
      exact k _ _ _ _ (xx.trans (Ext.newT x3.sub hp)) (.tup (.inl (.inl upd_same)) ((ra.cut o o').mono (Ext.newT x3.sub hp).mono)) q3.2
    · rename_i h ra
      refine .inr ⟨_, _, rfl, .of (x3.sub.lst h), fun p hp => ?_⟩
      exact k _ _ _ _ (xx.trans (Ext.newL x3.sub hp)) (.lst upd_same ((ra.cut o o').mono (Ext.newL x3.sub hp).mono)) q3⟩⟩⟩

/-! ### isinstance of built-in types -/
def tyD : D → String
  | .non => "NoneType" | .bl _ => "bool" | .int _ => "int" | .str _ => "str" | .tup _ => "tuple" | .lst _ => "list" | .dic _ => "dict" | .bag => "list" | .scr => "list"
/-- data whose kind may be asked (dicts with keys that are tuples: not so) -/
def D.tyOk : D → Bool
  | .dic kvs => kvs.all fun p => !p.1.kok
  | _ => true
theorem Rp.tyX {K : PySem.W.Frag} {F H : Hp} (s : Sub F H) {v : V} {d : D} (r : Rp K F v d) (ok : d.tyOk = true) : TyX K H v (.type (tyD d)) := by
  cases r with
  | non => exact .base .non
  | bl b => exact .base (.bl b)
  | int b => exact .base (.int b)
  | str b => exact .base (.str b)
  | lst h _ => exact .base (.lst (s.lst h))
  | dic h _ _ => exact .fDict (s.frz h)
  | dicT h k0 k1 k2 r1 r2 =>
    rename_i ds
    cases ds with
    | nil => exact absurd rfl k0
    | cons p ds =>
      exfalso
      simp only [D.tyOk, List.all_cons, Bool.and_eq_true] at ok
      rw [k2 p List.mem_cons_self] at ok
      exact Bool.false_ne_true ok.1
  | bag h =>
    obtain ⟨_, _, _, _, _, e⟩ := (s _ _ h).bag
    exact .base (.lst e)
  | scr h _ =>
    rcases h with (h | ⟨o, h⟩) | ⟨o, its, n, e, c, _⟩
    · exact .base (.lst (s.lst h))
    · exact .base (.frz (s.frz h))
    · exact .kList e c
  | tup h _ =>
    rcases h with (h | ⟨o, h⟩) | ⟨o, its, n, e, c, _⟩
    · exact .base (.tup (s.tup h))
    · exact .fTuple (s.frz h)
    · exact .kTuple e c
/-- the answers that the laws ask for, by the type's name -/
def isiD (T : String) (d : D) : Bool := match d with
  | .non => decide (T = "NoneType")
  | .bl _ => decide (T = "bool") || decide (T = "int")
  | .int _ => decide (T = "int")
  | .str _ => decide (T = "str")
  | .tup _ => decide (T = "tuple")
  | .lst _ => decide (T = "list")
  | .dic _ => decide (T = "dict")
  | .bag => decide (T = "list")
  | .scr => decide (T = "list")
def kitT (T : String) : Bool := [("NoneType", ["NoneType"]), ("bool", ["bool", "int"]), ("int", ["int"]), ("str", ["str"]), ("tuple", ["tuple"]), ("list", ["list"]), ("dict", ["dict"])].all fun p => decide (kitB p.1 T = some (p.2.contains T))
theorem kit_d {K : PySem.W.Frag} {T : String} (h : kitT T = true) (d : D) : PySem.W.kitOne K (.type (tyD d)) (.type T) = some (isiD T d) := by
  have h' := List.all_eq_true.mp h
  cases d <;> refine kit_ty ?_
  · have := of_decide_eq_true (h' ("NoneType", ["NoneType"]) (by simp)); rw [show tyD .non = "NoneType" from rfl, this]; simp [isiD, List.contains_cons]
  · rename_i b; have := of_decide_eq_true (h' ("bool", ["bool", "int"]) (by simp)); rw [show tyD (.bl b) = "bool" from rfl, this]; simp [isiD, List.contains_cons]
  · rename_i b; have := of_decide_eq_true (h' ("int", ["int"]) (by simp)); rw [show tyD (.int b) = "int" from rfl, this]; simp [isiD, List.contains_cons]
  · rename_i b; have := of_decide_eq_true (h' ("str", ["str"]) (by simp)); rw [show tyD (.str b) = "str" from rfl, this]; simp [isiD, List.contains_cons]
  · rename_i b; have := of_decide_eq_true (h' ("tuple", ["tuple"]) (by simp)); rw [show tyD (.tup b) = "tuple" from rfl, this]; simp [isiD, List.contains_cons]
  · rename_i b; have := of_decide_eq_true (h' ("list", ["list"]) (by simp)); rw [show tyD (.lst b) = "list" from rfl, this]; simp [isiD, List.contains_cons]
  · rename_i b; have := of_decide_eq_true (h' ("dict", ["dict"]) (by simp)); rw [show tyD (.dic b) = "dict" from rfl, this]; simp [isiD, List.contains_cons]
  · have := of_decide_eq_true (h' ("list", ["list"]) (by simp)); rw [show tyD .bag = "list" from rfl, this]; simp [isiD, List.contains_cons]
  · have := of_decide_eq_true (h' ("list", ["list"]) (by simp)); rw [show tyD .scr = "list" from rfl, this]; simp [isiD, List.contains_cons]
def dIsi (T : String) (t : DE) : DE := fun ρ Q => t ρ fun d => d.tyOk = true ∧ Q (.bl (isiD T d))
theorem pd_isi {T : Str} {p2 : Pos} (Tn : String) (hv2 : bootBuiltins T = some (.type Tn)) (hk : kitT Tn = true) (hm : X.mg "isinstance" = none) (hm2 : X.mg T = none) (he : PD X e t) (hg2 : Gl X T := by rfl) (hn2 : T ≠ "__name__" := by decide) (hd2 : (T == ("__debug__" : Str)) = false := by decide) (hg : Gl X "isinstance" := by rfl)
    (h1 : starEach [e, .Name T p2] X.env = (false, eval e X.env) :: starEach [.Name T p2] X.env := by rfl) :
    PD X (.Call (.Name "isinstance" p) [e, .Name T p2] [] pos) (dIsi Tn t) := by
  refine PE.impD (t := tCB (rIsi X.K) (tCons (lfE X.K t) (tCons (tC (.ty Tn)) tNil))) ?_ fun σ H Q ⟨ρ, F, Q0, s, en, ht, k⟩ => ⟨ρ, F, _, s, en, ht, fun v H1 F1 d x1 r q => ?_⟩
  · exact pe_callB call_isi hg hm (by decide +kernel) (pa_cons he (pa_cons (pe_bltn hg2 hm2 hv2 rfl hn2 hd2) pa_nil) h1) (by decide) (by decide) h1
  · exact ⟨v, _, _, _, _, rfl, .ty Tn, r.tyX x1.sub q.1, kit_d hk d, k _ H1 F1 _ x1 (.bl _) q.2⟩
def dIsi2 (T S : String) (t : DE) : DE := fun ρ Q => t ρ fun d => d.tyOk = true ∧ Q (.bl (isiD T d || isiD S d))
theorem pd_isi2 {T S : Str} {p2 p3 p4 : Pos} {x1} (Tn Sn : String) (hv2 : bootBuiltins T = some (.type Tn)) (hv3 : bootBuiltins S = some (.type Sn)) (hk : kitT Tn = true) (hk3 : kitT Sn = true) (hm : X.mg "isinstance" = none) (hm2 : X.mg T = none) (hm3 : X.mg S = none) (he : PD X e t)
    (hg2 : Gl X T := by rfl) (hn2 : T ≠ "__name__" := by decide) (hd2 : (T == ("__debug__" : Str)) = false := by decide) (hg3 : Gl X S := by rfl) (hn3 : S ≠ "__name__" := by decide) (hd3 : (S == ("__debug__" : Str)) = false := by decide) (hg : Gl X "isinstance" := by rfl)
    (h1 : starEach [e, .Tuple [.Name T p2, .Name S p3] x1 p4] X.env = (false, eval e X.env) :: starEach [.Tuple [.Name T p2, .Name S p3] x1 p4] X.env := by rfl) :
    PD X (.Call (.Name "isinstance" p) [e, .Tuple [.Name T p2, .Name S p3] x1 p4] [] pos) (dIsi2 Tn Sn t) := by
  refine PE.impD (t := tCB (rIsiT X.K) (tCons (lfE X.K t) (tCons (tTup (tCons (tC (.ty Tn)) (tCons (tC (.ty Sn)) tNil))) tNil))) ?_ fun σ H Q ⟨ρ, F, Q0, s, en, ht, k⟩ => ⟨ρ, F, _, s, en, ht, fun v H1 F1 d y1 r q => ?_⟩
  · exact pe_callB call_isiT hg hm (by decide +kernel) (pa_cons he (pa_cons (pe_tup (pa_cons (pe_bltn hg2 hm2 hv2 rfl hn2 hd2) (pa_cons (pe_bltn hg3 hm3 hv3 rfl hn3 hd3) pa_nil))) pa_nil) h1) (by decide) (by decide) h1
  · refine ⟨by show 2 ≤ sizeLine; decide, fun tp hp => ?_⟩
    have x := Ext.newT (xs := [V.ty Tn, V.ty Sn]) y1.sub hp
    refine ⟨v, tp, _, _, _, isiD Tn d || isiD Sn d, rfl, upd_same, .cons (.ty Tn) (.cons (.ty Sn) .nil), (r.mono x.mono).tyX x.sub q.1, ?_, k _ _ _ _ (y1.trans x) (.bl _) q.2⟩
    refine kitAny_cons (kit_d hk d) (fun h1 => ?_) (fun h1 => by rw [h1]; rfl)
    rw [h1, Bool.false_or]
    exact kitAny_cons (kit_d hk3 d) (fun h2 => by rw [h2]; exact kitAny_nil) (fun h2 => h2)
end
end DV

namespace DV
open PySem PySem.Spec PyProof.Rows L2

/-! ### list comprehensions -/
def wipeD (ρ : List Slot) : List Nat → List Slot
  | [] => ρ
  | v :: vs => (wipeD ρ vs).set v .un
def lcD (g : DG) (tt : DT) (te : DE) (ρ : List Slot) : List D → List D → (D → Prop) → Prop
  | [], acc, Q => Q (.lst acc)
  | d :: ds, acc, Q => g d ρ fun ρ2 => tt ρ2 fun b => if b = true then te ρ2 fun y => acc.length < sizeLine ∧ lcD g tt te ρ ds (acc ++ [y]) Q else lcD g tt te ρ ds acc Q
def dLc (it : DI) (g : DG) (tt : DT) (te : DE) (vs : List Nat) : DE := fun ρ Q => it ρ fun ds => lcD g tt te (wipeD ρ vs) ds [] Q
def dYes : DT := fun _ Q => Q true
theorem _root_.L2.PTs.impD {X : Cx} {es : List Expr} {t t' : TT} (h : PTs X es t) (i : ∀ σ H Q, t' σ H Q → t σ H Q) : PTs X es t' := ⟨fun p s σ H Q I q => h.run p s σ H Q I (i _ _ _ q)⟩
theorem pdts_nil {X : Cx} : PTs X [] (lfT X.K dYes) := pts_nil.impD fun σ H Q ⟨ρ, F, Q0, s, en, ht, k⟩ => k _ H F (.refl s) ht
theorem pdts_one {X : Cx} {c : Expr} {t : DT} (h : PDT X c t) : PTs X [c] (lfT X.K t) := pts_one h
theorem EnvOk.un {K : PySem.W.Frag} {F H : Hp} {σ : St} {ρ : List Slot} (h : EnvOk K F H σ ρ) (i : Nat) : EnvOk K F H (σ.set i none) (ρ.set i .un) := by
  refine ⟨by simp [h.len], fun j s e => ?_, fun a b p d' e' hab h1 h2 h3 h4 => ?_⟩
  · by_cases hj : j = i
    · subst hj
      have hl : j < ρ.length := by
        have := (List.getElem?_eq_some_iff.mp e).1
        simpa using this
      rw [List.getElem?_set_self hl] at e
      cases e
      exact ⟨none, by rw [List.getElem?_set_self (by rw [h.len]; exact hl)], trivial⟩
    · rw [List.getElem?_set_ne (Ne.symm hj)] at e ⊢
      exact h.at_ j s e
  · have ne : ∀ {a : Nat} {d : D}, (ρ.set i Slot.un)[a]? = some (Slot.own d) → a ≠ i := fun {a d} q z => by
      subst z
      have hl : a < ρ.length := by
        have := (List.getElem?_eq_some_iff.mp q).1
        simpa using this
      rw [List.getElem?_set_self hl] at q; cases q
    have na := ne h2
    have nb := ne h4
    rw [List.getElem?_set_ne (Ne.symm na)] at h1 h2
    rw [List.getElem?_set_ne (Ne.symm nb)] at h3 h4
    exact h.sep a b p d' e' hab h1 h2 h3 h4
theorem EnvOk.wipe {K : PySem.W.Frag} {F H : Hp} {σ : St} {ρ : List Slot} (h : EnvOk K F H σ ρ) : ∀ vs : List Nat, EnvOk K F H (L2.wipe σ vs) (wipeD ρ vs)
  | [] => h
  | v :: vs => (EnvOk.wipe h vs).un v
theorem Sta.empty {K : PySem.W.Frag} {F H : Hp} {σ : St} {ρ : List Slot} (s : Sub F H) (en : EnvOk K F H σ ρ) : Sta K (fun _ => none) (fun _ => none) F F σ H ρ :=
  ⟨fun _ _ e => (nomatch e), Same.refl F, ⟨fun _ _ e => (nomatch e), fun _ _ _ e => (nomatch e), s⟩, en, fun _ _ _ _ _ => rfl⟩
section
variable {X : Cx} {elt tg iter : Expr} {ifs : List Expr} {scope : Scope} {own : List (Str × Nat)} {pos : Pos} {it : DI} {g : TG} {g' : DG} {tt : DT} {te : DE}
theorem lf_lc (hG : RelG X.K (own.map (·.2)) g g') : ∀ σ H Q, lfE X.K (dLc it g' tt te (own.map (·.2))) σ H Q → tLc (lfI X.K it) g (lfT X.K tt) (lfE X.K te) (own.map (·.2)) σ H Q := fun σ H Q ⟨ρ, F, Q0, s, en, ht, k⟩ => by
  refine ⟨ρ, F, _, s, en, ht, fun J H1 F1 ds x1 io q Dd hD => ?_⟩
  have en1 := en.mono x1
  have hF1 := x1.sub.none hD
  refine ⟨fun i m H' => m = ds.length - i ∧ i ≤ ds.length ∧ ∃ F' acc xs, Ext F1 H1 F' H' ∧ F' Dd = none ∧ H' Dd = some (.lst xs) ∧ RpA X.K F' xs acc ∧ lcD g' tt te (wipeD ρ (own.map (·.2))) (ds.drop i) acc Q0,
    ⟨ds.length, rfl, Nat.zero_le _, F1, [], [], Ext.newO x1.sub hD, hF1, upd_same, .nil, q⟩, fun i m H' hW => ?_⟩
  obtain ⟨rfl, hle, F', acc, xs, x2, hF', hH', ra, q'⟩ := hW
  obtain ⟨h1, h2⟩ := io F' H' x2.mono x2.sub i
  by_cases hi : i < ds.length
  · obtain ⟨go, hy⟩ := h1 hi
    refine .inr ⟨go, fun H'' => ∃ F' acc xs, Ext F1 H1 F' H'' ∧ F' Dd = none ∧ H'' Dd = some (.lst xs) ∧ RpA X.K F' xs acc ∧ lcD g' tt te (wipeD ρ (own.map (·.2))) (ds.drop (i + 1)) acc Q0,
      fun H'' hN => ⟨ds.length - (i + 1), by omega, rfl, hi, hN⟩, fun x H2 hyx => ?_⟩
    obtain ⟨F2, d, x3, ed, rd⟩ := hy x H2 hyx
    rw [drop_cons ed] at q'
    have x23 := x2.trans x3
    have D2 := x3.keep Dd _ hF' hH'
    refine hG _ _ _ _ _ _ _ _ _ _ _ (Sta.empty x23.sub ((en1.mono x23).wipe _)) rd q' fun σ3 ρ3 s3 hw q3 => ⟨hw.trans (by
      have ww : ∀ (vs : List Nat) (σ : St), L2.wipe (L2.wipe σ vs) vs = L2.wipe σ vs := by
        intro vs σ
        have aux : ∀ (us : List Nat), (∀ u ∈ us, u ∈ vs) → L2.wipe (L2.wipe σ us) vs = L2.wipe σ vs := by
          intro us
          induction us with
          | nil => intro _; rfl
          | cons u r ih =>
            intro hu
            show L2.wipe ((L2.wipe σ r).set u none) vs = _
            rw [wipe_at (hu u List.mem_cons_self)]
            exact ih fun v hv => hu v (List.mem_cons_of_mem _ hv)
        exact aux vs fun u hu => hu
      exact ww _ _), ρ3, F2, _, s3.ext.sub, s3.env, q3, fun b H3 F3 x4 q4 => ?_⟩
    have x24 := x23.trans x4
    have D3 := x4.keep Dd _ D2.2 D2.1
    cases b with
    | false => exact iteF ⟨F3, acc, xs, x24, D3.2, D3.1, ra.mono (x3.mono.trans x4.mono), q4⟩
    | true =>
      refine iteT ⟨ρ3, F3, _, x4.sub, s3.env.mono x4, q4, fun y H4 F4 dy x5 ry q5 => ?_⟩
      have x25 := x24.trans x5
      have D4 := x5.keep Dd _ D3.2 D3.1
      have ra4 := ra.mono ((x3.mono.trans x4.mono).trans x5.mono)
      refine ⟨xs, D4.1, by rw [ra.length]; exact q5.1, F4, acc ++ [dy], xs ++ [y], ⟨x25.mono, fun a o e z => ?_, Ext.own x25.sub D4.2⟩, D4.2, upd_same, ra4.append (.cons ry .nil), q5.2⟩
      rw [upd_ne (ne_of_none z hD)]
      exact x25.keep a o e z
  · refine .inl ⟨h2 (by omega), ?_⟩
    have e : ds.drop i = [] := List.drop_eq_nil_of_le (by omega)
    rw [e] at q'
    have xa := x2.adopt hD hF' hH'
    have m : Same F' (upd F' Dd (.lst xs)) := fun b o e => by rw [upd_ne (ne_of_none e hF')]; exact e
    exact k _ _ _ _ (x1.trans xa) (.lst upd_same (ra.mono m)) q'
theorem pd_lc (hG : RelG X.K (own.map (·.2)) g g') (hc : X.calm = true) (hN : X.N.Nodup) (hi : PDI X tg iter it) (ok : BlkOk X.N X.env.scope scope own)
    (hg : ∀ (s : Shared) (H : Hp) (C : Addr) (cl : List (Str × Addr)) (fp : List Addr), PG (X.blk s H scope (compEnvC scope cl C X.env) fp) tg g)
    (ht : ∀ (s : Shared) (H : Hp) (C : Addr) (cl : List (Str × Addr)) (fp : List Addr), PTs (X.blk s H scope (compEnvC scope cl C X.env) fp) ifs (lfT X.K tt))
    (he : ∀ (s : Shared) (H : Hp) (C : Addr) (cl : List (Str × Addr)) (fp : List Addr), PE (X.blk s H scope (compEnvC scope cl C X.env) fp) elt (lfE X.K te)) (hs : ∀ x, foldedSetIterable iter X.env x = pure x := by intro _; rfl) :
    PD X (.ListComp elt [⟨tg, iter, ifs, 0⟩] scope pos) (dLc it g' tt te (own.map (·.2))) := (pe_lc hc hN hi ok hg ht he hs).impD (lf_lc hG)
theorem pds_setLc {i : Nat} {y : Str} {py spos : Pos} (hG : RelG X.K (own.map (·.2)) g g') (hc : X.calm = true) (hN : X.N.Nodup) (hy : X.N[i]? = some y) (hyl : X.env.scope.names.lookup y = some .local)
    (hsw : swapsWith (.ListComp elt [⟨tg, iter, ifs, 0⟩] scope pos) (some (.Name y py)) spos.line X.env = pure true) (hi : PDI X tg iter it) (ok : BlkOk X.N X.env.scope scope own)
    (hg : ∀ (s : Shared) (H : Hp) (C : Addr) (cl : List (Str × Addr)) (fp : List Addr), PG (X.blk s H scope (compEnvC scope cl C X.env) fp) tg g)
    (ht : ∀ (s : Shared) (H : Hp) (C : Addr) (cl : List (Str × Addr)) (fp : List Addr), PTs (X.blk s H scope (compEnvC scope cl C X.env) fp) ifs (lfT X.K tt))
    (he : ∀ (s : Shared) (H : Hp) (C : Addr) (cl : List (Str × Addr)) (fp : List Addr), PE (X.blk s H scope (compEnvC scope cl C X.env) fp) elt (lfE X.K te)) (hs : ∀ x, foldedSetIterable iter X.env x = pure x := by intro _; rfl) :
    PDS X (.Assign [.Name y py] (.ListComp elt [⟨tg, iter, ifs, 0⟩] scope pos) spos) (sSet i (dLc it g' tt te (own.map (·.2)))) := (ps_setLc hc hN hy hyl hsw hi ok hg ht he hs).impD fun N σ H ⟨F0, H0, G, ρ, M, ⟨F, so⟩, ht, k⟩ =>
  lf_lc hG σ H _ (so.lf ht fun v H' F' d so' r q => k.nx _ H' _ ⟨F', so'.set i r⟩ q)
end

/-- a list of one's own is handed back -/
def sRetOwn (i : Nat) : DS := fun N ρ => match ρ[i]? with
  | some (.own d) => N.ro d
  | _ => False
theorem pds_retOwn {X : Cx} {e : Expr} {i : Nat} {pos : Pos} (h : PE X e (tVar i)) : PDS X (.Return (some e) pos) (sRetOwn i) := (ps_ret h).impD fun N σ H ⟨F0, H0, G, ρ, M, ⟨F, so⟩, ht, k⟩ => by
  unfold sRetOwn at ht
  cases hi : ρ[i]? with
  | none => rw [hi] at ht; exact ht.elim
  | some sl =>
    rw [hi] at ht
    cases sl with
    | un => exact ht.elim
    | v d => exact ht.elim
    | tg u d => exact ht.elim
    | own d =>
      obtain ⟨x, e1, p, e2, hF, o⟩ := so.env.at_ i _ hi
      subst e2
      exact ⟨_, e1, k.ro _ _ _ _ so.ext (so.own i p _ e1 hi) hF o ht⟩

theorem hu65 {k : Nat} {A : Around} (r : Room k A) : A.units + 65 < cLine := by
  have := r.un
  omega
/-! ### the law's draws -/
def pullD : DSp := fun ds Q => ∃ n : Int, ds = [.bag, .int n] ∧ 0 < n ∧ DivOk n ∧ ∀ r : Int, 0 ≤ r → r < n → Q (.int r)
def bagD : DSp := fun ds Q => ds = [.scr] ∧ Q .bag

/-! ### the law's end -/
theorem mkGd {P : Program} {w : World} {K : PySem.W.Frag} {mg : Str → Option Value} {base : Heap} {nm : Str} {k : Nat} {dd : List D} {f : DSp} {a : Addr} {fd : FuncData} {ps : List Str} (hm : mg nm = some (.ref a)) (hk : PySem.W.keepIn K (.ref a) = true) (F : FnOk P w K mg base CX0 k a fd ps (spD K f))
    {dvs : List V} (b : ∃ ds, Vals dvs ds ∧ Binds K fd ps ds) (r : ∀ F, RpA K F dvs dd) : Gd P w K mg base nm k dd f := by
  obtain ⟨ds, h1, h2⟩ := b
  exact ⟨a, fd, ps, ds, dvs, hm, hk, F, h2, h1, r⟩
def onlyAt (H : Hp) (a : Addr) : Hp := fun b => if b = a then H b else none
theorem onlyAt_same {H : Hp} {a : Addr} : onlyAt H a a = H a := by unfold onlyAt; rw [if_pos rfl]
theorem onlyAt_some {H : Hp} {a b : Addr} {o : HO} (h : onlyAt H a b = some o) : b = a ∧ H a = some o := by
  unfold onlyAt at h
  by_cases hb : b = a
  · rw [if_pos hb] at h
    subst hb
    exact ⟨rfl, h⟩
  · rw [if_neg hb] at h; cases h
/-- the promise of the law's def, of its statement over data -/
theorem law_sp {K : PySem.W.Frag} {f : DSp} (h : f [.scr] fun d => d = .bl true) {H : Hp} {a : Addr} {ns : List Int} (hl : ns.length ≤ 63) (hS : SqL K H a (ns.map V.int)) : spD K f [.ref a] H (fun v _ => v = .bl true) fun _ _ _ => False := by
  rcases hS with hS | hS
  · refine ⟨onlyAt H a, [.scr], _, fun b o e => ?_, .cons (.scr (ns := ns) (.inl ?_) hl) .nil, h, fun v H' F' d _ r q => ?_⟩
    · obtain ⟨rfl, e⟩ := onlyAt_some e
      rcases hS with z | ⟨o', z⟩ <;> rw [z] at e <;> cases e <;> exact z
    · rcases hS with z | ⟨o', z⟩
      · exact .inl (onlyAt_same.trans z)
      · exact .inr ⟨o', onlyAt_same.trans z⟩
    · subst q; cases r; rfl
  · refine ⟨fun _ => none, [.scr], _, fun _ _ e => (nomatch e), .cons (.scr (ns := ns) (.inr hS) hl) .nil, h, fun v H' F' d _ r q => ?_⟩
    subst q; cases r; rfl
end DV

namespace DV
open PySem PySem.Spec PyProof.Rows L2

/-! ### a list of one's own is frozen -/
def frz (i : Nat) (ρ : List Slot) : List Slot := match ρ[i]? with
  | some (.own d) => ρ.set i (.v d)
  | _ => ρ
def sFrz (i : Nat) (t : DS) : DS := fun N ρ => t N (frz i ρ)
theorem ext_upd {F H F1 H1 : Hp} (x : Ext F1 H1 F H) {p : Addr} {o : HO} (hp : H1 p = none) (hF : F p = none) (ho : ∀ ps, o ≠ .tbl ps) : Ext F1 H1 (upd F p o) (upd H p o) := by
  have m : Same F (upd F p o) := fun b o e => by rw [upd_ne (ne_of_none e hF)]; exact e
  refine ⟨x.mono.trans m, fun a o e q => ?_, fun b u e => ?_⟩
  · rw [upd_ne (ne_of_none q hp), upd_ne (ne_of_none q hp)]
    exact x.keep a o e q
  · by_cases hb : b = p
    · subst hb
      rw [upd_same] at e; cases e
      cases o with
      | tbl ps => exact absurd rfl (ho ps)
      | _ => exact upd_same
    · rw [upd_ne hb] at e
      exact (x.sub b u e).mono m fun u q => by rw [upd_ne hb]; exact q
/-- u is the frozen form of u0 -/
def FrzOf (u0 u : HO) : Prop := (∃ xs, u0 = .lst xs ∧ u = .lst xs) ∨ (∃ od, u = .frz od u0 ∧ Mut (some u0) ∧ ∀ xs, u0 ≠ .tup xs)
/-- an object of one's own is frozen (a dict is locked) -/
theorem own_freeze {X : Cx} {pins : List (Addr × Obj)} {σ : St} {s : Shared} {F1 H1 F H : Hp} (I : Inv X pins σ H s) (x : Ext F1 H1 F H) {p : Addr} {d : D} (hp : H1 p = none) (hF : F p = none) (o : OwnAt X.K F H p d) :
    ∃ u0 u, H p = some u0 ∧ FrzOf u0 u ∧ (∀ o' u', X.H_0 p ≠ some (.frz o' u')) ∧ Inv X pins σ (upd H p u) s ∧ Ext F1 H1 (upd F p u) (upd H p u) ∧ Rp X.K (upd F p u) (.ref p) d := by
  have m : ∀ u, Same F (upd F p u) := fun u b o e => by rw [upd_ne (ne_of_none e hF)]; exact e
  cases d <;> first | exact o.elim | skip
  · obtain ⟨xs, e, r⟩ := o
    refine ⟨_, .lst xs, e, .inl ⟨xs, rfl, rfl⟩, I.nofrz e True.intro, ?_, ext_upd x hp hF (fun _ z => nomatch z), .lst upd_same (r.mono (m _))⟩
    have : upd H p (.lst xs) = H := funext fun b => by
      by_cases h : b = p
      · rw [h, upd_same, e]
      · rw [upd_ne h]
    rw [this]; exact I
  · rcases o with ⟨ks, e, r, q⟩ | ⟨rows, e, q0, q1, q2, r1, r2⟩
    · obtain ⟨od, I1⟩ := I.lock e True.intro
      exact ⟨_, _, e, .inr ⟨od, rfl, True.intro, fun _ z => nomatch z⟩, I.nofrz e True.intro, I1, ext_upd x hp hF (fun _ z => nomatch z), .dic upd_same (r.mono (m _)) q⟩
    · obtain ⟨od, I1⟩ := I.lock e True.intro
      exact ⟨_, _, e, .inr ⟨od, rfl, True.intro, fun _ z => nomatch z⟩, I.nofrz e True.intro, I1, ext_upd x hp hF (fun _ z => nomatch z), .dicT upd_same q0 q1 q2 (r1.mono (m _)) (r2.mono (m _))⟩
/-- back to the form that may be changed -/
theorem own_thaw {X : Cx} {pins : List (Addr × Obj)} {σ : St} {s : Shared} {H : Hp} {p : Addr} {u0 u : HO} (I : Inv X pins σ H s) (h : H p = some u) (z : FrzOf u0 u) (n : ∀ o' u', X.H_0 p ≠ some (.frz o' u')) : Inv X pins σ (upd H p u0) s := by
  rcases z with ⟨xs, rfl, rfl⟩ | ⟨od, rfl, _, _⟩
  · have : upd H p (.lst xs) = H := funext fun b => by
      by_cases k : b = p
      · rw [k, upd_same, h]
      · rw [upd_ne k]
    rw [this]; exact I
  · exact I.unlock h n
theorem pds_frz {X : Cx} {st : Stmt} {t : DS} (i : Nat) (h : PDS X st t) : PDS X st (sFrz i t) := by
  refine ⟨fun pins s σ H N I ⟨F0, H0, G, ρ, M, ⟨F, so⟩, ht, k⟩ => ?_⟩
  unfold sFrz frz at ht
  have same : t M ρ → lfS X.K t N σ H := fun z => ⟨F0, H0, G, ρ, M, ⟨F, so⟩, z, k⟩
  cases hi : ρ[i]? with
  | none => rw [hi] at ht; exact h.run pins s σ H N I (same ht)
  | some sl =>
    rw [hi] at ht
    cases sl with
    | un => exact h.run pins s σ H N I (same ht)
    | v d => exact h.run pins s σ H N I (same ht)
    | tg u d => exact h.run pins s σ H N I (same ht)
    | own d0 =>
      obtain ⟨y, e1, p, e2, hF, o⟩ := so.env.at_ i _ hi
      subst e2
      have h0 := so.own i p _ e1 hi
      obtain ⟨_, u, _, _, _, I1, x1, r1⟩ := own_freeze I so.ext h0 hF o
      have m : Same F (upd F p u) := fun b o e => by rw [upd_ne (ne_of_none e hF)]; exact e
      have hl : i < ρ.length := (List.getElem?_eq_some_iff.mp hi).1
      have other : ∀ {j : Nat} {q : Addr} {d : D}, j ≠ i → σ[j]? = some (some (.ref q)) → ρ[j]? = some (.own d) → q ≠ p := fun {j q d} hj a1 a2 z => by
        subst z
        exact so.env.sep j i q d _ hj a1 a2 e1 hi
      refine h.run pins s σ _ N I1 ⟨F0, H0, G, ρ.set i (.v d0), M, ⟨upd F p u, ⟨so.bse, so.pin.trans m, x1, ⟨by simp [so.env.len], fun j sl e => ?_, fun a b q d e hab a1 a2 a3 a4 => ?_⟩, fun j q d a1 a2 => ?_⟩⟩, ht, k⟩
      · by_cases hj : j = i
        · subst hj
          rw [List.getElem?_set_self hl] at e
          cases e
          exact ⟨_, e1, _, rfl, r1⟩
        · rw [List.getElem?_set_ne (Ne.symm hj)] at e
          obtain ⟨x, e3, ok⟩ := so.env.at_ j sl e
          refine ⟨x, e3, ?_⟩
          cases sl with
          | un => exact True.intro
          | v d =>
            obtain ⟨v, e4, r4⟩ := ok
            exact ⟨v, e4, r4.mono m⟩
          | tg u d => exact ⟨ok.1, ok.2.mono m⟩
          | own d =>
            obtain ⟨q, e4, hq, o⟩ := ok
            subst e4
            have nq := other hj e3 e
            exact ⟨q, rfl, by rw [upd_ne nq]; exact hq, o.mono m fun u z => by rw [upd_ne nq]; exact z⟩
      · have ne : ∀ {a : Nat} {d' : D}, (ρ.set i (Slot.v d0))[a]? = some (Slot.own d') → a ≠ i := fun {a d'} q z => by
          subst z
          rw [List.getElem?_set_self hl] at q; cases q
        have na := ne a2
        have nb := ne a4
        rw [List.getElem?_set_ne (Ne.symm na)] at a2
        rw [List.getElem?_set_ne (Ne.symm nb)] at a4
        exact so.env.sep a b q _ _ hab a1 a2 a3 a4
      · have nj : j ≠ i := fun z => by
          subst z
          rw [List.getElem?_set_self hl] at a2; cases a2
        rw [List.getElem?_set_ne (Ne.symm nj)] at a2
        exact so.own j q _ a1 a2

/-! ### x = y = e -/
def sAsg2 (i j : Nat) (t : DE) : DS := fun N ρ => t ρ fun d => N.nx ((ρ.set i (.v d)).set j (.v d))
theorem pds_asg2 {X : Cx} {e t1 t2 : Expr} {t : DE} {i j : Nat} {pos : Pos} (he : PD X e t) (h1 : PG X t1 (gName i)) (h2 : PG X t2 (gName j)) (ha : (assignEach [t1, t2] X.env).map (·.2) = [assign t1 X.env, assign t2 X.env] := by rfl) (hw : swappedStores [t1, t2] e X.env = pure none := by rfl) :
    PDS X (.Assign [t1, t2] e pos) (sAsg2 i j t) := (ps_asg2 he h1 h2 ha hw).impD fun N σ H ⟨F0, H0, G, ρ, M, ⟨F, so⟩, ht, k⟩ =>
  so.lf ht fun v H' F' d so' r q => k.nx _ H' _ ⟨F', (so'.set i r).set j r⟩ q

/-! ### order of data -/
def ltX (f : PyData → PyData → Bool) (K : PySem.W.Frag) : R2 := fun x y H Q => ∃ d e, Dp K H x d ∧ Dp K H y e ∧ W.alike d e = true ∧ d ≠ .none ∧ d.depth ≤ 64 ∧ Q (.bl (f d e)) H
section
variable {X : Cx}
theorem op_ltX (hu : X.A.units + 64 < cLine) : OpR X (compareOp .Lt) (ltX (fun d e => W.dataLt d e) X.K) := by
  intro pins s σ H x y v u Q I rx ry h
  obtain ⟨d, e, hd, he, al, hn, hz, q⟩ := h
  obtain ⟨as, r1⟩ := Dp.reads I d x v hd rx
  obtain ⟨bs, r2⟩ := Dp.reads I e y u he ry
  exact PySem.W.lt_data r1 r2 al hn (by have := Nat.min_le_left d.depth e.depth; omega) ⟨.bl _, H, I, rfl, q⟩
theorem op_gtX (hu : X.A.units + 64 < cLine) : OpR X (compareOp .Gt) (ltX (fun d e => W.dataLt e d) X.K) := by
  intro pins s σ H x y v u Q I rx ry h
  obtain ⟨d, e, hd, he, al, hn, hz, q⟩ := h
  obtain ⟨as, r1⟩ := Dp.reads I d x v hd rx
  obtain ⟨bs, r2⟩ := Dp.reads I e y u he ry
  exact PySem.W.gt_data r1 r2 al hn (by have := Nat.min_le_left d.depth e.depth; omega) ⟨.bl _, H, I, rfl, q⟩
theorem op_leX (hu : X.A.units + 64 < cLine) : OpR X (compareOp .LtE) (ltX (fun d e => !W.dataLt e d) X.K) := by
  intro pins s σ H x y v u Q I rx ry h
  obtain ⟨d, e, hd, he, al, hn, hz, q⟩ := h
  obtain ⟨as, r1⟩ := Dp.reads I d x v hd rx
  obtain ⟨bs, r2⟩ := Dp.reads I e y u he ry
  exact PySem.W.le_data r1 r2 al hn (by have := Nat.min_le_left d.depth e.depth; omega) ⟨.bl _, H, I, rfl, q⟩
theorem op_geX (hu : X.A.units + 64 < cLine) : OpR X (compareOp .GtE) (ltX (fun d e => !W.dataLt d e) X.K) := by
  intro pins s σ H x y v u Q I rx ry h
  obtain ⟨d, e, hd, he, al, hn, hz, q⟩ := h
  obtain ⟨as, r1⟩ := Dp.reads I d x v hd rx
  obtain ⟨bs, r2⟩ := Dp.reads I e y u he ry
  exact PySem.W.ge_data r1 r2 al hn (by have := Nat.min_le_left d.depth e.depth; omega) ⟨.bl _, H, I, rfl, q⟩
end
def ordD (f : PyData → PyData → Bool) : D2 := fun x y Q => x.lay = true ∧ y.lay = true ∧ W.alike x.toP y.toP = true ∧ x.toP ≠ .none ∧ Q (.bl (f x.toP y.toP))
theorem od_ord {K : PySem.W.Frag} {f : PyData → PyData → Bool} : OpD K (ltX f K) (ordD f) := fun F H x y dx dy Q0 Q s rx ry q k => by
  obtain ⟨h1, h2, h3, h4, q⟩ := q
  exact ⟨dx.toP, dy.toP, rx.dp s (lay_and h1).1, ry.dp s (lay_and h2).1, h3, h4, SeqAt.depth_of_shaped (lay_and h1).2, k _ H F _ (.refl s) (.bl _) q⟩
def ltT : D2 := ordD fun d e => W.dataLt d e
def gtT : D2 := ordD fun d e => W.dataLt e d
def leT : D2 := ordD fun d e => !W.dataLt e d
def geT : D2 := ordD fun d e => !W.dataLt d e
theorem opD_or {K : PySem.W.Frag} {r r' : R2} {g g' : D2} (h : OpD K r g) (h' : OpD K r' g') : OpD K (fun x y H Q => r x y H Q ∨ r' x y H Q) (fun x y Q => g x y Q ∨ g' x y Q) := fun F H x y dx dy Q0 Q s rx ry q k =>
  q.elim (fun z => .inl (h F H x y dx dy Q0 Q s rx ry z k)) (fun z => .inr (h' F H x y dx dy Q0 Q s rx ry z k))

/-! ### min, max -/
section
variable {prog : Program} {w : World} {A : Around} {E : Value → Shared → Prop} {s : Shared}
theorem max_twoH {a b : Value} {Q : Value → Shared → Prop}
    (h : wpAny (model prog w) A.in1 (pyIter (.ref s.heap.objs.size)) (fun it s₂ => ∃ I fp wr G n P St H bt, it = .ref I ∧ WalksS prog w A.in1 I fp wr G n P St ∧ St 0 s₂ ∧ (∀ b ∈ fp, b < s₂.heap.objs.size) ∧ 0 < n ∧
      (∀ b o, H.get? b = some o → b ∉ wr) ∧ (∀ b o, H.get? b = some o → s₂.heap.get? b = some o) ∧ CmpIn prog w A.in1 .Gt H P bt ∧ ∀ v s', P (argBest bt (n - 1)) v → Moved wr G s₂ s' → Q v s') E
      { s with heap := s.heap.push { cls := .type "tuple", data := .seq #[a, b] } }) :
    wpAny (model prog w) A (call (.builtin "max") [a, b]) Q E s := by
  have hname : (toString "max" ++ toString ".loop" : String) = "max.loop" := by decide
  refine call_function_tree F.kind_max F.plain_max F.entry_max (F.args_max2 _ _) ?_
  show wpAny _ A.in1 (Builtin.Builtins.bindParams "max" ["key", "default"] 0 ⟨[], []⟩ >>= _) _ _ s
  refine wpAny_bind (wpAny_of_eq (show Builtin.Builtins.bindParams "max" ["key", "default"] 0 ⟨[], []⟩ = pure [none, none] from rfl) ?_)
  show wpAny _ A.in1 (newTuple [a, b] >>= _) _ _ s
  refine wpAny_bind (wpAny_newObj_type ?_)
  refine wpAny_bind (wpAny_mono h (fun it s₂ h₂ => ?_) fun _ _ e => e)
  obtain ⟨I, fp, wr, G, n, P, St, H, bt, rfl, W, hst, hfp, hn, hw, hkeep, hcmp, hQ⟩ := h₂
  refine wpAny_bind (wpAny_newObj_type ?_)
  have hSf : s₂.heap.objs.size ∉ fp := fun hm => Nat.lt_irrefl _ (hfp _ hm)
  rw [hname]
  refine wpAny_pure ⟨plainId_quiet F.plain_max_loop _, codeAny_max_loop_firstH W H hw bt hcmp s₂.heap.objs.size hSf (fresh_in hkeep) _ hn (fun b o e => Heap.get?_push_of_some _ (hkeep b o e)) (W.frame 0 s₂ _ s₂.toks hst (Nat.le_refl _) fun b _ o e => Heap.get?_push_of_some _ e) (Heap.get?_push_size _ rfl) fun v s' hP hm => ?_⟩
  exact hQ v s' hP (Moved.drop_new (tk := s₂.toks) hm (Nat.le_refl _))
theorem min_twoH {a b : Value} {Q : Value → Shared → Prop}
    (h : wpAny (model prog w) A.in1 (pyIter (.ref s.heap.objs.size)) (fun it s₂ => ∃ I fp wr G n P St H bt, it = .ref I ∧ WalksS prog w A.in1 I fp wr G n P St ∧ St 0 s₂ ∧ (∀ b ∈ fp, b < s₂.heap.objs.size) ∧ 0 < n ∧
      (∀ b o, H.get? b = some o → b ∉ wr) ∧ (∀ b o, H.get? b = some o → s₂.heap.get? b = some o) ∧ CmpIn prog w A.in1 .Lt H P bt ∧ ∀ v s', P (argBest bt (n - 1)) v → Moved wr G s₂ s' → Q v s') E
      { s with heap := s.heap.push { cls := .type "tuple", data := .seq #[a, b] } }) :
    wpAny (model prog w) A (call (.builtin "min") [a, b]) Q E s := by
  have hname : (toString "min" ++ toString ".loop" : String) = "min.loop" := by decide
  refine call_function_tree F.kind_min F.plain_min F.entry_min (F.args_min2 _ _) ?_
  show wpAny _ A.in1 (Builtin.Builtins.bindParams "min" ["key", "default"] 0 ⟨[], []⟩ >>= _) _ _ s
  refine wpAny_bind (wpAny_of_eq (show Builtin.Builtins.bindParams "min" ["key", "default"] 0 ⟨[], []⟩ = pure [none, none] from rfl) ?_)
  show wpAny _ A.in1 (newTuple [a, b] >>= _) _ _ s
  refine wpAny_bind (wpAny_newObj_type ?_)
  refine wpAny_bind (wpAny_mono h (fun it s₂ h₂ => ?_) fun _ _ e => e)
  obtain ⟨I, fp, wr, G, n, P, St, H, bt, rfl, W, hst, hfp, hn, hw, hkeep, hcmp, hQ⟩ := h₂
  refine wpAny_bind (wpAny_newObj_type ?_)
  have hSf : s₂.heap.objs.size ∉ fp := fun hm => Nat.lt_irrefl _ (hfp _ hm)
  rw [hname]
  refine wpAny_pure ⟨plainId_quiet F.plain_min_loop _, codeAny_min_loop_firstH W H hw bt hcmp s₂.heap.objs.size hSf (fresh_in hkeep) _ hn (fun b o e => Heap.get?_push_of_some _ (hkeep b o e)) (W.frame 0 s₂ _ s₂.toks hst (Nat.le_refl _) fun b _ o e => Heap.get?_push_of_some _ e) (Heap.get?_push_size _ rfl) fun v s' hP hm => ?_⟩
  exact hQ v s' hP (Moved.drop_new (tk := s₂.toks) hm (Nat.le_refl _))
theorem max_two_data {a b : Value} {d e : PyData} {as bs : List Addr} {Q : Value → Shared → Prop} (hh : A.handled = none) (r1 : Reads s.heap a d as) (r2 : Reads s.heap b e bs) (ha : W.AlikeAll [d, e]) (hu : A.units + 1 + PyData.depthAll [d, e] < cLine)
    (h : ∀ h' tk, (∀ b o, s.heap.get? b = some o → h'.get? b = some o) → Q (if W.dataLt d e = true then b else a) { s with heap := h', toks := tk }) : wpAny (model prog w) A (call (.builtin "max") [a, b]) Q E s := by
  have hT : (s.heap.push { cls := .type "tuple", data := .seq #[a, b] }).IsTuple s.heap.objs.size #[a, b] := ⟨_, Heap.get?_push_size _ rfl, rfl, 0, rfl⟩
  have kp : ∀ c o, s.heap.get? c = some o → (s.heap.push { cls := .type "tuple", data := .seq #[a, b] }).get? c = some o := fun c o e => Heap.get?_push_of_some _ e
  have hr : ReadsAll (s.heap.push { cls := .type "tuple", data := .seq #[a, b] }) (#[a, b] : Array Value).toList [d, e] (as ++ (bs ++ [])) := .cons (Reads.keeps kp r1) (.cons (Reads.keeps kp r2) .nil)
  refine max_twoH (W.iter_tupleW (s := { s with heap := s.heap.push { cls := .type "tuple", data := .seq #[a, b] } }) (A := A.in1) hh hT fun s₂ e2 Wk st hfp hw hk => ?_)
  refine ⟨_, _, _, _, _, _, _, _, _, rfl, Wk, st, hfp, by simp, hw, hk, W.cmpIn_gt (s := { s with heap := s.heap.push { cls := .type "tuple", data := .seq #[a, b] } }) (A := A.in1) hr ha (by show A.units + 1 + _ < _; exact hu), fun v s' hP m => ?_⟩
  obtain ⟨h', tk, rfl, hk'⟩ := W.moved_old (s := { s with heap := s.heap.push { cls := .type "tuple", data := .seq #[a, b] } }) e2 rfl m
  have hv : v = if W.dataLt d e = true then b else a := by
    have hP' : (#[a, b] : Array Value)[argBest (fun i j => W.dataLt ([d, e].getD j .none) ([d, e].getD i .none)) 1]? = some v := hP
    by_cases c : W.dataLt d e = true
    · have e3 : argBest (fun i j => W.dataLt ([d, e].getD j .none) ([d, e].getD i .none)) 1 = 1 := by simp [argBest, c]
      rw [e3] at hP'
      rw [if_pos c]; simpa using hP'.symm
    · have e3 : argBest (fun i j => W.dataLt ([d, e].getD j .none) ([d, e].getD i .none)) 1 = 0 := by simp [argBest, c]
      rw [e3] at hP'
      rw [if_neg c]; simpa using hP'.symm
  rw [hv]
  exact h h' tk fun b o q => hk' b o (kp b o q)
theorem min_two_data {a b : Value} {d e : PyData} {as bs : List Addr} {Q : Value → Shared → Prop} (hh : A.handled = none) (r1 : Reads s.heap a d as) (r2 : Reads s.heap b e bs) (ha : W.AlikeAll [d, e]) (hu : A.units + 1 + PyData.depthAll [d, e] < cLine)
    (h : ∀ h' tk, (∀ b o, s.heap.get? b = some o → h'.get? b = some o) → Q (if W.dataLt e d = true then b else a) { s with heap := h', toks := tk }) : wpAny (model prog w) A (call (.builtin "min") [a, b]) Q E s := by
  have hT : (s.heap.push { cls := .type "tuple", data := .seq #[a, b] }).IsTuple s.heap.objs.size #[a, b] := ⟨_, Heap.get?_push_size _ rfl, rfl, 0, rfl⟩
  have kp : ∀ c o, s.heap.get? c = some o → (s.heap.push { cls := .type "tuple", data := .seq #[a, b] }).get? c = some o := fun c o e => Heap.get?_push_of_some _ e
  have hr : ReadsAll (s.heap.push { cls := .type "tuple", data := .seq #[a, b] }) (#[a, b] : Array Value).toList [d, e] (as ++ (bs ++ [])) := .cons (Reads.keeps kp r1) (.cons (Reads.keeps kp r2) .nil)
  refine min_twoH (W.iter_tupleW (s := { s with heap := s.heap.push { cls := .type "tuple", data := .seq #[a, b] } }) (A := A.in1) hh hT fun s₂ e2 Wk st hfp hw hk => ?_)
  refine ⟨_, _, _, _, _, _, _, _, _, rfl, Wk, st, hfp, by simp, hw, hk, W.cmpIn_lt (s := { s with heap := s.heap.push { cls := .type "tuple", data := .seq #[a, b] } }) (A := A.in1) hr ha (by show A.units + 1 + _ < _; exact hu), fun v s' hP m => ?_⟩
  obtain ⟨h', tk, rfl, hk'⟩ := W.moved_old (s := { s with heap := s.heap.push { cls := .type "tuple", data := .seq #[a, b] } }) e2 rfl m
  have hv : v = if W.dataLt e d = true then b else a := by
    have hP' : (#[a, b] : Array Value)[argBest (fun i j => W.dataLt ([d, e].getD i .none) ([d, e].getD j .none)) 1]? = some v := hP
    by_cases c : W.dataLt e d = true
    · have e3 : argBest (fun i j => W.dataLt ([d, e].getD i .none) ([d, e].getD j .none)) 1 = 1 := by simp [argBest, c]
      rw [e3] at hP'
      rw [if_pos c]; simpa using hP'.symm
    · have e3 : argBest (fun i j => W.dataLt ([d, e].getD i .none) ([d, e].getD j .none)) 1 = 0 := by simp [argBest, c]
      rw [e3] at hP'
      rw [if_neg c]; simpa using hP'.symm
  rw [hv]
  exact h h' tk fun b o q => hk' b o (kp b o q)
end
def rMM2 (mx : Bool) (K : PySem.W.Frag) : List V → Hp → VK → Prop := fun xs H Q => ∃ x y d e, xs = [x, y] ∧ Dp K H x d ∧ Dp K H y e ∧ W.AlikeAll [d, e] ∧ d.depth ≤ 64 ∧ e.depth ≤ 64 ∧ Q (if (if mx = true then W.dataLt d e else W.dataLt e d) = true then y else x) H
theorem callX_max2 {X : Cx} (hc : X.calm = true) (hu : X.A.units + 65 < cLine) : CallR X (.builtin "max") (rMM2 true X.K) := by
  intro pins s σ H xs us Q I r h
  obtain ⟨x, y, d, e, rfl, hd, he, al, z1, z2, q⟩ := h
  obtain ⟨u, u', rfl, r1, r2⟩ := vals2 r
  obtain ⟨as, k1⟩ := Dp.reads I d x u hd r1
  obtain ⟨bs, k2⟩ := Dp.reads I e y u' he r2
  refine max_two_data (I.ok.hd hc) k1 k2 al (by simp only [PyData.depthAll]; omega) fun h' tk k => ⟨_, H, I.kept k, ?_, q⟩
  by_cases c : W.dataLt d e = true
  · simp only [c, if_true]; exact r2
  · simp only [c, if_true]; exact r1
theorem callX_min2 {X : Cx} (hc : X.calm = true) (hu : X.A.units + 65 < cLine) : CallR X (.builtin "min") (rMM2 false X.K) := by
  intro pins s σ H xs us Q I r h
  obtain ⟨x, y, d, e, rfl, hd, he, al, z1, z2, q⟩ := h
  obtain ⟨u, u', rfl, r1, r2⟩ := vals2 r
  obtain ⟨as, k1⟩ := Dp.reads I d x u hd r1
  obtain ⟨bs, k2⟩ := Dp.reads I e y u' he r2
  refine min_two_data (I.ok.hd hc) k1 k2 al (by simp only [PyData.depthAll]; omega) fun h' tk k => ⟨_, H, I.kept k, ?_, q⟩
  by_cases c : W.dataLt e d = true
  · simp only [c, if_true]; exact r2
  · simp only [c, if_true]; exact r1
def mm2D (mx : Bool) : DF := fun ds Q => match ds with
  | [x, y] => x.lay = true ∧ y.lay = true ∧ W.AlikeAll [x.toP, y.toP] ∧ Q (if (if mx = true then W.dataLt x.toP y.toP else W.dataLt y.toP x.toP) = true then y else x)
  | _ => False
theorem cd_mm2 {K : PySem.W.Frag} {mx : Bool} : CallD K (rMM2 mx K) (mm2D mx) := fun F H xs ds Q0 Q s r q k => by
  rcases r with _ | ⟨r1, _ | ⟨r2, _ | ⟨_, _⟩⟩⟩ <;> first | exact q.elim | skip
  obtain ⟨h1, h2, h3, q⟩ := q
  refine ⟨_, _, _, _, rfl, r1.dp s (lay_and h1).1, r2.dp s (lay_and h2).1, h3, SeqAt.depth_of_shaped (lay_and h1).2, SeqAt.depth_of_shaped (lay_and h2).2, ?_⟩
  refine k _ H F _ (.refl s) ?_ q
  generalize (if mx = true then W.dataLt _ _ else W.dataLt _ _) = c
  cases c
  · exact r1
  · exact r2
/-- min, max of a tuple or list of ints -/
def rMM1 (f : Int → Int → Int) (K : PySem.W.Frag) : List V → Hp → VK → Prop := fun xs H Q => ∃ (a : Addr) (n : Int) (ns : List Int), xs = [.ref a] ∧ (SqL K H a ((n :: ns).map V.int) ∨ SqT K H a ((n :: ns).map V.int)) ∧ Q (.int (ns.foldl f n)) H
theorem alikeInts (n : Int) (ns : List Int) : W.AlikeAll ((n :: ns).map PyData.int) := by
  refine ⟨fun x hx y hy => ?_, fun x hx => ?_⟩
  · obtain ⟨i, _, rfl⟩ := List.mem_map.mp hx
    obtain ⟨j, _, rfl⟩ := List.mem_map.mp hy
    rfl
  · obtain ⟨i, _, rfl⟩ := List.mem_map.mp hx
    intro z; cases z
theorem depthInts : ∀ ns : List Int, PyData.depthAll (ns.map PyData.int) = 0
  | [] => rfl
  | n :: ns => by
    rw [List.map_cons]
    unfold PyData.depthAll
    rw [depthInts ns]
    rfl
theorem reads_ints {h : Heap} : ∀ {ns : List Int} {us : List Value}, Vals (ns.map V.int) us → ReadsAll h us (ns.map PyData.int) []
  | [], us, r => by cases r; exact .nil
  | n :: ns, us, r => by
    cases r with
    | cons r1 r2 =>
      obtain ⟨t, rfl⟩ := r1
      have := ReadsAll.cons (Reads.int (h := h) n t) (reads_ints (h := h) r2)
      simpa using this
theorem reads_int_inv {h : Heap} {v : Value} {i : Int} {as : List Addr} (r : Reads h v (.int i) as) : ∃ t, v = .int i t := by
  cases r; exact ⟨_, rfl⟩
theorem callX_max1 {X : Cx} (hc : X.calm = true) (hu : X.A.units + 65 < cLine) : CallR X (.builtin "max") (rMM1 max X.K) := by
  intro pins s σ H xs us Q I r h
  obtain ⟨a, n, ns, rfl, hS, q⟩ := h
  obtain rfl := Vals.ref1 r
  have hd : X.A.units + 1 + PyData.depthAll (PyData.int n :: ns.map PyData.int) < cLine := by
    have := depthInts (n :: ns)
    rw [List.map_cons] at this
    rw [this]; omega
  rcases hS with hS | hS
  · obtain ⟨its, rv, pl, _⟩ := I.list hS
    refine W.max_list_data (x := .int n) (xs := ns.map PyData.int) (I.ok.hd hc) pl.isList (by have := reads_ints (h := s.heap) rv; simpa using this) (alikeInts n ns) hd fun i v h' tk bs hv hr k => ?_
    rw [W.maxD_ints] at hr
    exact ⟨.int _, H, I.kept k, reads_int_inv hr, q⟩
  · obtain ⟨its, rv, pl, _⟩ := I.tuple hS
    refine W.max_tuple_data (x := .int n) (xs := ns.map PyData.int) (I.ok.hd hc) pl (by have := reads_ints (h := s.heap) rv; simpa using this) (alikeInts n ns) hd fun i v h' tk bs hv hr k => ?_
    rw [W.maxD_ints] at hr
    exact ⟨.int _, H, I.kept k, reads_int_inv hr, q⟩
theorem callX_min1 {X : Cx} (hc : X.calm = true) (hu : X.A.units + 65 < cLine) : CallR X (.builtin "min") (rMM1 min X.K) := by
  intro pins s σ H xs us Q I r h
  obtain ⟨a, n, ns, rfl, hS, q⟩ := h
  obtain rfl := Vals.ref1 r
  have hd : X.A.units + 1 + PyData.depthAll (PyData.int n :: ns.map PyData.int) < cLine := by
    have := depthInts (n :: ns)
    rw [List.map_cons] at this
    rw [this]; omega
  rcases hS with hS | hS
  · obtain ⟨its, rv, pl, _⟩ := I.list hS
    refine W.min_list_data (x := .int n) (xs := ns.map PyData.int) (I.ok.hd hc) pl.isList (by have := reads_ints (h := s.heap) rv; simpa using this) (alikeInts n ns) hd fun i v h' tk bs hv hr k => ?_
    rw [W.minD_ints] at hr
    exact ⟨.int _, H, I.kept k, reads_int_inv hr, q⟩
  · obtain ⟨its, rv, pl, _⟩ := I.tuple hS
    refine W.min_tuple_data (x := .int n) (xs := ns.map PyData.int) (I.ok.hd hc) pl (by have := reads_ints (h := s.heap) rv; simpa using this) (alikeInts n ns) hd fun i v h' tk bs hv hr k => ?_
    rw [W.minD_ints] at hr
    exact ⟨.int _, H, I.kept k, reads_int_inv hr, q⟩
def mm1D (f : Int → Int → Int) : DF := fun ds Q => match ds with
  | [.lst es] => ∃ n ns, es = (n :: ns).map D.int ∧ Q (.int (ns.foldl f n))
  | [.tup es] => ∃ n ns, es = (n :: ns).map D.int ∧ Q (.int (ns.foldl f n))
  | _ => False
theorem ints_of {K : PySem.W.Frag} {F : Hp} : ∀ {vs : List V} {ns : List Int}, RpA K F vs (ns.map D.int) → vs = ns.map V.int
  | _, [], r => by cases r; rfl
  | _, n :: ns, r => by
    cases r with
    | cons r1 r2 =>
      cases r1
      rw [ints_of r2]
      rfl
theorem cd_mm1 {K : PySem.W.Frag} {f : Int → Int → Int} : CallD K (rMM1 f K) (mm1D f) := fun F H xs ds Q0 Q s r q k => by
  rcases r with _ | ⟨r1, _ | ⟨r2, _⟩⟩ <;> first | exact q.elim | (cases r1 <;> exact q.elim) | skip
  cases r1 <;> first | exact q.elim | skip
  · rename_i h ra
    obtain ⟨n, ns, rfl, q⟩ := q
    have e := ints_of ra
    subst e
    exact ⟨_, n, ns, rfl, .inr (s.seqT h), k _ H F _ (.refl s) (.int _) q⟩
  · rename_i h ra
    obtain ⟨n, ns, rfl, q⟩ := q
    have e := ints_of ra
    subst e
    exact ⟨_, n, ns, rfl, .inl (.of (s.lst h)), k _ H F _ (.refl s) (.int _) q⟩
theorem hu64 {k : Nat} {A : Around} (r : Room k A) : A.units + 64 < cLine := by
  have := r.un
  omega
/-- x[::-1] -/
def revD (x : D) (Q : D → Prop) : Prop := match x with
  | .lst ds => Q (.lst ds.reverse)
  | _ => False
def dRev (t : DE) : DE := fun ρ Q => t ρ fun x => revD x Q
theorem RpA.rev {K : PySem.W.Frag} {F : Hp} {xs : List V} {ds : List D} (r : RpA K F xs ds) : RpA K F xs.reverse ds.reverse := by
  induction r using RpA.rec (motive_1 := fun _ _ _ => True) with
  | nil => exact .nil
  | cons h _ _ ih =>
    rw [List.reverse_cons, List.reverse_cons]
    exact ih.append (.cons h .nil)
  | _ => trivial
theorem pd_rev {X : Cx} {e : Expr} {t : DE} {k : Nat} {p1 p2 p3 pos : Pos} (he : PD X e t) : PD X (.Subscript e (.Slice none none (some (.UnaryOp .USub (.Constant (.int 1) k p1) p2)) p3) pos) (dRev t) := (pe_revL he).impD fun σ H Q ⟨ρ, F, Q0, s, en, ht, k⟩ =>
  ⟨ρ, F, _, s, en, ht, fun v H1 F1 d x1 r q => by
    cases r <;> first | exact q.elim | skip
    rename_i h ra
    refine ⟨_, _, rfl, .of (x1.sub.lst h), fun p hp => ?_⟩
    exact k _ _ _ _ (x1.trans (Ext.newL x1.sub hp)) (.lst upd_same (ra.rev.mono (Ext.newL x1.sub hp).mono)) q⟩
/-- < of ints or of other data -/
def ltA : D2 := fun x y Q => ltI x y Q ∨ ltT x y Q
def gtA : D2 := fun x y Q => gtI x y Q ∨ gtT x y Q
def leA : D2 := fun x y Q => leI x y Q ∨ leT x y Q
def geA : D2 := fun x y Q => geI x y Q ∨ geT x y Q
def max2A : DF := fun ds Q => max2D ds Q ∨ mm2D true ds Q
def min2A : DF := fun ds Q => min2D ds Q ∨ mm2D false ds Q
theorem cd_or {K : PySem.W.Frag} {r r' : List V → Hp → VK → Prop} {g g' : DF} (h : CallD K r g) (h' : CallD K r' g') : CallD K (fun xs H Q => r xs H Q ∨ r' xs H Q) (fun ds Q => g ds Q ∨ g' ds Q) := fun F H xs ds Q0 Q s rx q k =>
  q.elim (fun z => .inl (h F H xs ds Q0 Q s rx z k)) (fun z => .inr (h' F H xs ds Q0 Q s rx z k))
end DV

namespace DV
open PySem PySem.Spec PyProof.Rows L2

/-! ### new lists of one's own as results -/
theorem Ext.noneBack {F H F' H' : Hp} (s : Sub F H) (x : Ext F H F' H') {p : Addr} (h : H' p = none) : H p = none := by
  cases e : H p with
  | none => rfl
  | some o =>
    cases f : F p with
    | none =>
      have := (x.keep p o f e).1
      rw [h] at this; cases this
    | some o' =>
      obtain ⟨u, q⟩ := (x.sub p o' (x.mono p o' f)).there
      rw [h] at q; cases q
theorem same_upd {F : Hp} {p : Addr} {o : HO} (h : F p = none) : Same F (upd F p o) := fun b x e => by rw [upd_ne (ne_of_none e h)]; exact e
def OwnV (K : PySem.W.Frag) (H F' H' : Hp) (v : V) (d : D) : Prop := (d.noLst = true ∧ Rp K F' v d) ∨ ∃ p : Addr, v = .ref p ∧ H p = none ∧ F' p = none ∧ OwnAt K F' H' p d
theorem OwnV.lst {K : PySem.W.Frag} {H F' H' : Hp} {p : Addr} {xs : List V} {ds : List D} (h0 : H p = none) (hF : F' p = none) (hp : H' p = some (.lst xs)) (r : RpA K F' xs ds) : OwnV K H F' H' (.ref p) (.lst ds) := .inr ⟨p, rfl, h0, hF, xs, hp, r⟩
theorem OwnV.back {K : PySem.W.Frag} {F H F1 H1 F' H' : Hp} {v : V} {d : D} (s : Sub F H) (x : Ext F H F1 H1) (o : OwnV K H1 F' H' v d) : OwnV K H F' H' v d := o.imp id fun ⟨p, e1, e2, r⟩ => ⟨p, e1, x.noneBack s e2, r⟩
def lfEo (K : PySem.W.Frag) (t : DE) : TE := fun σ H Q => ∃ ρ F Q0, Sub F H ∧ EnvOk K F H σ ρ ∧ t ρ Q0 ∧ ∀ v H' F' d, Ext F H F' H' → OwnV K H F' H' v d → Q0 d → Q v H'
abbrev PDo (X : Cx) (e : Expr) (t : DE) : Prop := PE X e (lfEo X.K t)
theorem PDo.pd {X : Cx} {e : Expr} {t : DE} (h : PDo X e t) : PD X e t := by
  refine ⟨fun pins s σ H Q I ⟨ρ, F, Q0, sb, en, ht, k⟩ => ?_⟩
  refine thn (h.run pins s σ H (fun v H' => ∃ F' d, Ext F H F' H' ∧ OwnV X.K H F' H' v d ∧ Q0 d) I ⟨ρ, F, Q0, sb, en, ht, fun v H' F' d x o q => ⟨F', d, x, o, q⟩⟩) fun v s1 ⟨x, H1, I1, r1, F1, d, x1, o, q⟩ => ?_
  rcases o with ⟨_, r⟩ | ⟨p, rfl, h0, hF, o⟩
  · exact ⟨x, H1, I1, r1, k _ _ _ _ x1 r q⟩
  · obtain ⟨_, u, _, _, _, I2, x2, r2⟩ := own_freeze I1 x1 h0 hF o
    exact ⟨_, _, I2, r1, k _ _ _ _ x2 r2 q⟩
/-- a value without lists -/
def dNl (t : DE) : DE := fun ρ Q => t ρ fun d => d.noLst = true ∧ Q d
section
variable {X : Cx} {e a b c : Expr} {es : List Expr} {st : Stmt} {t ta tb tc : DE} {tr : DA} {tA : DT} {u : DS} {pos p : Pos}
theorem pdo_nl (h : PD X e t) : PDo X e (dNl t) := PE.impD h fun σ H Q ⟨ρ, F, Q0, s, en, ht, k⟩ =>
  ⟨ρ, F, _, s, en, ht, fun v H' F' d x r q => k v H' F' d x (.inl ⟨q.1, r⟩) q.2⟩
theorem pdo_lst (h : PDA X es tr) : PDo X (.List es pos) (dLst tr) := (pe_lst h).impD fun σ H Q ⟨ρ, F, Q0, s, en, ht, k⟩ =>
  ⟨ρ, F, _, s, en, ht, fun xs H1 F1 ds x1 rs q1 => ⟨by rw [rs.length]; exact q1.1, fun p hp =>
    k _ _ _ _ (x1.trans (Ext.newO x1.sub hp)) (OwnV.lst (x1.noneBack s hp) (x1.sub.none hp) upd_same rs) q1.2⟩⟩
theorem pdo_if (hc : PDT X c tA) (ha : PDo X a ta) (hb : PDo X b tb) : PDo X (.IfExp c a b pos) (dIf tA ta tb) := (pe_ifExp hc ha hb).impD fun σ H Q ⟨ρ, F, Q0, s, en, ht, k⟩ =>
  ⟨ρ, F, _, s, en, ht, fun c H1 F1 x1 q1 => by
    have back : ∀ v H' F' d, OwnV X.K H1 F' H' v d → OwnV X.K H F' H' v d := fun v H' F' d o => o.back s x1
    cases c with
    | true => exact iteT ⟨ρ, F1, Q0, x1.sub, en.mono x1, q1, fun v H2 F2 d x2 o2 q2 => k v H2 F2 d (x1.trans x2) (back _ _ _ _ o2) q2⟩
    | false => exact iteF ⟨ρ, F1, Q0, x1.sub, en.mono x1, q1, fun v H2 F2 d x2 o2 q2 => k v H2 F2 d (x1.trans x2) (back _ _ _ _ o2) q2⟩⟩
def CallDo (K : PySem.W.Frag) (r : List V → Hp → VK → Prop) (g : DF) : Prop := ∀ (F H : Hp) (xs : List V) (ds : List D) (Q0 : D → Prop) (Q : VK), Sub F H → RpA K F xs ds → g ds Q0 → (∀ v H' F' d, Ext F H F' H' → OwnV K H F' H' v d → Q0 d → Q v H') → r xs H Q
theorem lf_cbo {K : PySem.W.Frag} {r : List V → Hp → VK → Prop} {g : DF} (h : CallDo K r g) : ∀ σ H Q, lfEo K (dB g tr) σ H Q → tCB r (lfA K tr) σ H Q := fun σ H Q ⟨ρ, F, Q0, s, en, ht, k⟩ =>
  ⟨ρ, F, _, s, en, ht, fun vs H1 F1 ds x1 r q => h F1 H1 vs ds Q0 Q x1.sub r q fun v H' F' d x2 o q2 => k v H' F' d (x1.trans x2) (o.back s x1) q2⟩
theorem pdo_cb {nm : Str} {id : String} {r : List V → Hp → VK → Prop} {g : DF} (hc : CallR X (.builtin id) r) (h : CallDo X.K r g) (hm : X.mg nm = none) (hv : bootBuiltins nm = some (.builtin id)) (ha : PDA X (e :: es) tr) (hg : Gl X nm := by rfl) (hn : nm ≠ "__name__" := by decide) (hdb : (nm == ("__debug__" : Str)) = false := by decide)
    (he : starEach (e :: es) X.env = (false, eval e X.env) :: starEach es X.env := by rfl) (hpl : (backTo pos (starEach es X.env)).any (·.1) = false := by rfl) : PDo X (.Call (.Name nm p) (e :: es) [] pos) (dB g tr) := by
  refine PE.impD (t := tCB r (lfA X.K tr)) ?_ (lf_cbo h)
  exact pe_callB hc hg hm hv ha hn hdb he hpl
theorem pdo_ct {nm : Str} {T : String} {r : List V → Hp → VK → Prop} {g : DF} (hc : CallR X (.type T) r) (h : CallDo X.K r g) (hm : X.mg nm = none) (hv : bootBuiltins nm = some (.type T)) (ha : PDA X (e :: es) tr) (hg : Gl X nm := by rfl) (hn : nm ≠ "__name__" := by decide) (hdb : (nm == ("__debug__" : Str)) = false := by decide)
    (he : starEach (e :: es) X.env = (false, eval e X.env) :: starEach es X.env := by rfl) (hpl : (backTo pos (starEach es X.env)).any (·.1) = false := by rfl) : PDo X (.Call (.Name nm p) (e :: es) [] pos) (dB g tr) := by
  refine PE.impD (t := tCB r (lfA X.K tr)) ?_ (lf_cbo h)
  exact pe_callTy hc hg hm hv ha hn hdb he hpl
theorem cdo_list {K : PySem.W.Frag} : CallDo K (fun xs H Q => ∃ p ys, xs = [.ref p] ∧ (SqL K H p ys ∨ SqT K H p ys) ∧ ∀ l, H l = none → Q (.ref l) (upd H l (.lst ys))) listD := fun F H xs ds Q0 Q s r q k => by
  rcases r with _ | ⟨r1, _ | ⟨_, _⟩⟩ <;> first | exact q.elim | (cases r1 <;> exact q.elim) | skip
  cases r1 <;> first | exact q.elim | skip
  · rename_i h ra
    exact ⟨_, _, rfl, .inr (s.seqT h), fun l hl => k _ _ _ _ (Ext.newO s hl) (OwnV.lst hl (s.none hl) upd_same ra) q⟩
  · rename_i h ra
    exact ⟨_, _, rfl, .inl (.of (s.lst h)), fun l hl => k _ _ _ _ (Ext.newO s hl) (OwnV.lst hl (s.none hl) upd_same ra) q⟩

/-! ### defs that hand back new lists -/
def spO (K : PySem.W.Frag) (f : DSp) : Sp := fun vs H Q _ => ∃ F ds Q0, Sub F H ∧ RpA K F vs ds ∧ f ds Q0 ∧ ∀ v H' F' d, Ext F H F' H' → OwnV K H F' H' v d → Q0 d → Q v H'
def rtNl (Q : D → Prop) (d : D) : Prop := d.noLst = true ∧ Q d
/-- a def of m parameters, n names, that hands back new lists or what holds none -/
def fnO (n m : Nat) (t : DS) : DSp := fun ds Q => ds.length = m ∧ t ⟨fun _ => Q .non, rtNl Q, fun _ => False, fun _ => False, Q⟩ (ds.map Slot.v ++ List.replicate (n - m) Slot.un)
end
section
variable {P : Program} {w : World} {K : PySem.W.Frag} {mg : Str → Option Value} {base : Heap}
theorem fn_okO {x qual : Str} {params : Arguments} {body : List Stmt} {scope : Scope} {dvs : List V} {kws : List (Str × V)} {f : Addr} {fd : FuncData} {N ps : List Str} {k : Nat} {t : DS}
    (F : FunD K x qual params body scope dvs kws f fd) (S : FnScope N ps scope)
    (hb : ∀ (cdv : Value) (A : Around) (outer : List Env) (s : Shared) (H : Hp) (E : XK), Room k (A.deeper (envOfC qual scope s.heap.objs.size f cdv)) → PDSs (cxOf CX0 P w K mg base N qual scope f cdv A outer s H E).nox body t) :
    FnOk P w K mg base CX0 (k + 1) f fd ps (spO K (fnO N.length ps.length t)) := by
  refine F.ok S (fun vs H Q E h => ?_) (fun cdv A outer s H vs Q E hr h => ⟨_, PSs.nox (hb cdv A outer s H E hr), ?_⟩)
  · obtain ⟨F, ds, Q0, _, r, h, _⟩ := h
    rw [r.length]; exact h.1
  · obtain ⟨F, ds, Q0, sb, r, h, q⟩ := h
    have en : EnvOk K F H (L2.start N vs) (ds.map Slot.v ++ List.replicate (N.length - ds.length) Slot.un) := env_start r
    rw [h.1] at en
    refine ⟨F, H, F, _, _, ⟨F, ⟨sb, Same.refl F, .refl sb, en, fun i p d h1 h2 => ?_⟩⟩, h.2, ⟨fun σ' H' ρ' ⟨F', s'⟩ z => q .non H' F' .non s'.ext (.inl ⟨rfl, .non⟩) z, fun v H' F' d x r z => q v H' F' d x (.inl ⟨z.1, r⟩) z.2, fun p d H' F' x h0 hF o z => q (.ref p) H' F' d x (.inr ⟨p, rfl, h0, hF, o⟩) z, fun _ _ _ _ z => z.elim, fun _ _ _ _ z => z.elim⟩⟩
    have hm := List.mem_of_getElem? h2
    rcases List.mem_append.mp hm with z | z
    · obtain ⟨d', _, z⟩ := List.mem_map.mp z
      cases z
    · cases (List.mem_replicate.mp z).2
end
/-- such a def as its callers see it -/
def GdO (P : Program) (w : World) (K : PySem.W.Frag) (mg : Str → Option Value) (base : Heap) (nm : Str) (k : Nat) (dd : List D) (f : DSp) : Prop :=
  ∃ (a : Addr) (fd : FuncData) (ps : List Str) (ds : List Value) (dvs : List V), mg nm = some (.ref a) ∧ PySem.W.keepIn K (.ref a) = true ∧ FnOk P w K mg base CX0 k a fd ps (spO K f) ∧ Binds K fd ps ds ∧ Vals dvs ds ∧ ∀ F, RpA K F dvs dd
theorem mkGdO {P : Program} {w : World} {K : PySem.W.Frag} {mg : Str → Option Value} {base : Heap} {nm : Str} {k : Nat} {dd : List D} {f : DSp} {a : Addr} {fd : FuncData} {ps : List Str} (hm : mg nm = some (.ref a)) (hk : PySem.W.keepIn K (.ref a) = true) (F : FnOk P w K mg base CX0 k a fd ps (spO K f))
    {dvs : List V} (b : ∃ ds, Vals dvs ds ∧ Binds K fd ps ds) (r : ∀ F, RpA K F dvs dd) : GdO P w K mg base nm k dd f := by
  obtain ⟨ds, h1, h2⟩ := b
  exact ⟨a, fd, ps, ds, dvs, hm, hk, F, h2, h1, r⟩
section
variable {X : Cx} {e a b c : Expr} {es : List Expr} {st : Stmt} {t ta tb tc : DE} {tr : DA} {tA : DT} {u : DS} {pos p : Pos}
theorem pdo_call {nm : Str} {k : Nat} {dd : List D} {f : DSp} (G : GdO X.prog X.w X.K X.mg X.base nm k dd f) (hr : Room k X.A) (ha : PDA X (e :: es) tr) (hg : Gl X nm := by rfl) (hdb : (nm == ("__debug__" : Str)) = false := by decide)
    (he : starEach (e :: es) X.env = (false, eval e X.env) :: starEach es X.env := by rfl) (hpl : (backTo pos (starEach es X.env)).any (·.1) = false := by rfl) : PDo X (.Call (.Name nm p) (e :: es) [] pos) (dCall f dd tr) := by
  obtain ⟨a, fd, ps, ds, dvs, hm, hk, F, hb, hd, hdd⟩ := G
  refine (pe_call F hr hg hm hk hb hd pass0 ha hdb he hpl).impD fun σ H Q ⟨ρ, F, Q0, s, en, ht, k⟩ => ⟨ρ, F, _, s, en, ht, fun vs H1 F1 ds x1 r q => ?_⟩
  exact ⟨F1, _, Q0, x1.sub, r.append (hdd F1), q, fun v H' F' d x2 o q2 => k v H' F' d (x1.trans x2) (o.back s x1) q2⟩
def ownS : D → Slot
  | .lst ds => .own (.lst ds)
  | .dic ds => .own (.dic ds)
  | d => .v d
theorem ownS_own {K : PySem.W.Frag} {F H : Hp} {p : Addr} {d : D} (o : OwnAt K F H p d) : ownS d = .own d := by
  cases d <;> first | exact o.elim | rfl
theorem ownS_nl {d : D} (h : d.noLst = true) : ownS d = .v d := by
  cases d <;> first | rfl | (simp [D.noLst] at h; done)
/-- a new list comes to a name -/
theorem Sta.setNew {K : PySem.W.Frag} {F0 H0 G F F' H H' : Hp} {σ : St} {ρ : List Slot} (s : Sta K F0 H0 G F σ H ρ) (x : Ext F H F' H') (i : Nat) {p : Addr} {d : D} (h0 : H p = none) (hF : F' p = none) (o : OwnAt K F' H' p d) :
    Sta K F0 H0 G F' (σ.set i (some (.ref p))) H' (ρ.set i (.own d)) := by
  have s' := s.step x
  have en := s'.env
  have old : ∀ {j : Nat} {q : Addr} {d : D}, σ[j]? = some (some (.ref q)) → ρ[j]? = some (Slot.own d) → q ≠ p := fun {j q d} h1 h2 z => by
    obtain ⟨y, e1, p', e2, _, o⟩ := s.env.at_ j _ h2
    rw [h1] at e1; cases e1; cases e2
    obtain ⟨u, hu⟩ := o.there
    rw [z, h0] at hu; cases hu
  refine ⟨s.bse, s'.pin, s'.ext, ⟨by simp [en.len], fun j sl e => ?_, fun a b q d e hab h1 h2 h3 h4 => ?_⟩, fun j q d h1 h2 => ?_⟩
  · by_cases hj : j = i
    · subst hj
      have hl : j < ρ.length := by
        have := (List.getElem?_eq_some_iff.mp e).1
        simpa using this
      rw [List.getElem?_set_self hl] at e
      cases e
      exact ⟨_, by rw [List.getElem?_set_self (by rw [en.len]; exact hl)], p, rfl, hF, o⟩
    · rw [List.getElem?_set_ne (Ne.symm hj)] at e ⊢
      exact en.at_ j sl e
  · have self : ∀ {q : Addr}, (σ.set i (some (V.ref p)))[i]? = some (some (.ref q)) → q = p := fun {q} h => by
      have hl : i < (σ.set i (some (V.ref p))).length := (List.getElem?_eq_some_iff.mp h).1
      rw [List.getElem?_set_self (by simpa using hl)] at h
      cases h; rfl
    by_cases ha : a = i
    · subst ha
      have nb := Ne.symm hab
      rw [List.getElem?_set_ne (Ne.symm nb)] at h3 h4
      exact old h3 h4 (self h1)
    · rw [List.getElem?_set_ne (Ne.symm ha)] at h1 h2
      by_cases hb : b = i
      · subst hb
        exact old h1 h2 (self h3)
      · rw [List.getElem?_set_ne (Ne.symm hb)] at h3 h4
        exact en.sep a b q d e hab h1 h2 h3 h4
  · by_cases hj : j = i
    · subst hj
      have hl : j < (σ.set j (some (V.ref p))).length := (List.getElem?_eq_some_iff.mp h1).1
      rw [List.getElem?_set_self (by simpa using hl)] at h1
      cases h1
      exact s.ext.noneBack s.bse h0
    · rw [List.getElem?_set_ne (Ne.symm hj)] at h1 h2
      exact s.own j q d h1 h2
def sSetO (i : Nat) (t : DE) : DS := fun N ρ => t ρ fun d => N.nx (ρ.set i (ownS d))
theorem pds_setO {i : Nat} {x : Str} {pos' : Pos} (hN : X.N.Nodup) (hi : X.N[i]? = some x) (hx : Loc X.env.scope x) (he : PDo X e t) (hs : swapsWith e (some (.Name x pos')) pos.line X.env = pure false := by rfl)
    (hf : X.fn x = true ∨ X.env.scope.names.lookup x = some .local := by first | exact .inl rfl | exact .inr rfl | assumption) : PDS X (.Assign [.Name x pos'] e pos) (sSetO i t) := (ps_set hN hi hx he hs hf).impD fun N σ H ⟨F0, H0, G, ρ, M, ⟨F, so⟩, ht, k⟩ =>
  ⟨ρ, F, _, so.ext.sub, so.env, ht, fun v H' F' d x o q => by
    rcases o with ⟨n, r⟩ | ⟨p, rfl, h0, hF, o⟩
    · rw [ownS_nl n] at q
      exact k.nx _ _ _ ⟨F', (so.step x).set i r⟩ q
    · rw [ownS_own o] at q
      exact k.nx _ _ _ ⟨F', so.setNew x i h0 hF o⟩ q⟩
/-- a new list is handed back -/
def sRetO (t : DE) : DS := fun N ρ => t ρ fun d => if d.noLst = true then N.rt d else N.ro d
theorem pds_retO (he : PDo X e t) : PDS X (.Return (some e) pos) (sRetO t) := (ps_ret he).impD fun N σ H ⟨F0, H0, G, ρ, M, ⟨F, so⟩, ht, k⟩ =>
  ⟨ρ, F, _, so.ext.sub, so.env, ht, fun v H' F' d x o q => by
    have x' := so.ext.trans x
    rcases o with ⟨n, r⟩ | ⟨p, rfl, h0, hF, o⟩
    · rw [if_pos n] at q
      exact k.rt v H' F' d x' r q
    · have n : ¬d.noLst = true := by cases d <;> first | exact o.elim | simp [D.noLst]
      rw [if_neg n] at q
      exact k.ro p d H' F' x' (so.ext.noneBack so.bse h0) hF o q⟩

/-! ### own things are read for a while -/
theorem EnvOk.frz {K : PySem.W.Frag} {F H : Hp} {σ : St} {ρ : List Slot} (en : EnvOk K F H σ ρ) {i : Nat} {p : Addr} {d : D} {u : HO} (e1 : σ[i]? = some (some (.ref p))) (hi : ρ[i]? = some (.own d)) (hF : F p = none) (r : Rp K (upd F p u) (.ref p) d) : EnvOk K (upd F p u) (upd H p u) σ (ρ.set i (.v d)) := by
  have m : Same F (upd F p u) := same_upd hF
  have hl : i < ρ.length := (List.getElem?_eq_some_iff.mp hi).1
  refine ⟨by simp [en.len], fun j sl e => ?_, fun a b q d' e hab a1 a2 a3 a4 => ?_⟩
  · by_cases hj : j = i
    · subst hj
      rw [List.getElem?_set_self hl] at e
      cases e
      exact ⟨_, e1, _, rfl, r⟩
    · rw [List.getElem?_set_ne (Ne.symm hj)] at e
      obtain ⟨x, e3, ok⟩ := en.at_ j sl e
      refine ⟨x, e3, ?_⟩
      cases sl with
      | un => exact True.intro
      | v d =>
        obtain ⟨v, e4, r4⟩ := ok
        exact ⟨v, e4, r4.mono m⟩
      | tg u d => exact ⟨ok.1, ok.2.mono m⟩
      | own d' =>
        obtain ⟨q, e4, hq, o⟩ := ok
        subst e4
        have nq : q ≠ p := fun z => by
          subst z
          exact en.sep j i q d' _ hj e3 e e1 hi
        exact ⟨q, rfl, by rw [upd_ne nq]; exact hq, o.mono m fun u z => by rw [upd_ne nq]; exact z⟩
  · have ne : ∀ {a : Nat} {d' : D}, (ρ.set i (Slot.v d))[a]? = some (Slot.own d') → a ≠ i := fun {a d'} q z => by
      subst z
      rw [List.getElem?_set_self hl] at q; cases q
    have na := ne a2
    have nb := ne a4
    rw [List.getElem?_set_ne (Ne.symm na)] at a2
    rw [List.getElem?_set_ne (Ne.symm nb)] at a4
    exact en.sep a b q _ _ hab a1 a2 a3 a4
def delH (F : Hp) (p : Addr) : Hp := fun a => if a = p then none else F a
theorem delH_same {F : Hp} {p : Addr} : delH F p p = none := if_pos rfl
theorem delH_ne {F : Hp} {a p : Addr} (h : a ≠ p) : delH F p a = F a := if_neg h
theorem FrzOf.mutb {u0 u : HO} (z : FrzOf u0 u) : Mutb u := by
  rcases z with ⟨xs, _, rfl⟩ | ⟨od, rfl, _, k⟩
  · exact .inl ⟨xs, rfl⟩
  · exact .inr ⟨od, u0, rfl, k⟩
theorem FrzOf.noMark {u0 u : HO} (z : FrzOf u0 u) : u ≠ Mark2 := by
  rcases z with ⟨xs, _, rfl⟩ | ⟨od, rfl, _, _⟩ <;> exact fun z => nomatch z
theorem FrzOf.std {u0 u : HO} (z : FrzOf u0 u) {F H : Hp} {p : Addr} (s : Stands F H p u) : H p = some u := by
  rcases z with ⟨xs, _, rfl⟩ | ⟨od, rfl, _, _⟩ <;> exact s
/-- what was lent is taken back -/
theorem unlend {F H F' H' : Hp} {p : Addr} {u0 u : HO} (z : FrzOf u0 u) (hF : F p = none) (hp : H p = some u0) (x : Ext (upd F p u) (upd H p u) F' H') : H' p = some u ∧ Ext F H (delH F' p) (upd H' p u0) ∧ ButLst F' (delH F' p) := by
  have fp : F' p = some u := x.mono p _ upd_same
  have hp' : H' p = some u := z.std (x.sub p _ fp)
  refine ⟨hp', ⟨fun a o e => ?_, fun a o e q => ?_, fun a o e => ?_⟩, fun a o e => ?_⟩
  · have na : a ≠ p := ne_of_none e hF
    rw [delH_ne na]
    exact x.mono a o (by rw [upd_ne na]; exact e)
  · by_cases h : a = p
    · subst h
      rw [hp] at q; cases q
      exact ⟨upd_same, delH_same⟩
    · rw [upd_ne h, delH_ne h]
      exact x.keep a o (by rw [upd_ne h]; exact e) (by rw [upd_ne h]; exact q)
  · by_cases h : a = p
    · subst h
      rw [delH_same] at e; cases e
    · rw [delH_ne h] at e
      refine (x.sub a o e).monoM (fun b e2 => ?_) fun u q => by rw [upd_ne h]; exact q
      have nb : b ≠ p := fun y => by
        rw [y, fp] at e2
        exact z.noMark (Option.some.inj e2)
      rw [delH_ne nb]; exact e2
  · by_cases h : a = p
    · subst h
      rw [fp] at e; cases e
      exact .inr z.mutb
    · exact .inl (by rw [delH_ne h]; exact e)
def dBorT (i : Nat) (t : DT) : DT := fun ρ Q => t (frz i ρ) Q
def dBor (i : Nat) (t : DE) : DE := fun ρ Q => t (frz i ρ) fun d => d.noLst = true ∧ Q d
def dBorA (i : Nat) (t : DA) : DA := fun ρ Q => t (frz i ρ) fun ds => D.noLsts ds = true ∧ Q ds
theorem pdt_bor (i : Nat) (h : PDT X c tA) : PDT X c (dBorT i tA) := by
  refine ⟨fun pins s σ H Q I ⟨ρ, F, Q0, sb, en, ht, k⟩ => ?_⟩
  unfold dBorT DV.frz at ht
  have same : tA ρ Q0 → lfT X.K tA σ H Q := fun z => ⟨ρ, F, Q0, sb, en, z, k⟩
  cases hi : ρ[i]? with
  | none => rw [hi] at ht; exact h.run pins s σ H Q I (same ht)
  | some sl =>
    rw [hi] at ht
    cases sl with
    | un => exact h.run pins s σ H Q I (same ht)
    | v d => exact h.run pins s σ H Q I (same ht)
    | tg u d => exact h.run pins s σ H Q I (same ht)
    | own d0 =>
      obtain ⟨y, e1, p, e2, hF, o⟩ := en.at_ i _ hi
      subst e2
      obtain ⟨u0, u, hp, z, n, I1, x1, r1⟩ := own_freeze I (Ext.mk (F := fun _ => none) (H := fun _ => none) (fun _ _ e => (nomatch e)) (fun _ _ _ e => (nomatch e)) sb) rfl hF o
      refine thn (h.run pins s σ _ (fun b H' => ∃ F', Ext (upd F p u) (upd H p u) F' H' ∧ Q0 b) I1 ⟨ρ.set i (.v d0), upd F p u, Q0, x1.sub, en.frz e1 hi hF r1, ht, fun b H' F' x q => ⟨F', x, q⟩⟩) fun b s1 ⟨H1, I2, F1, x2, q⟩ => ?_
      obtain ⟨k1, k2, _⟩ := unlend z hF hp x2
      exact ⟨_, own_thaw I2 k1 z n, k _ _ _ k2 q⟩
theorem pd_bor (i : Nat) (h : PD X e t) : PD X e (dBor i t) := by
  refine ⟨fun pins s σ H Q I ⟨ρ, F, Q0, sb, en, ht, k⟩ => ?_⟩
  unfold dBor DV.frz at ht
  have same : t ρ (fun d => d.noLst = true ∧ Q0 d) → lfE X.K t σ H Q := fun z => ⟨ρ, F, _, sb, en, z, fun v H' F' d x r q => k v H' F' d x r q.2⟩
  cases hi : ρ[i]? with
  | none => rw [hi] at ht; exact h.run pins s σ H Q I (same ht)
  | some sl =>
    rw [hi] at ht
    cases sl with
    | un => exact h.run pins s σ H Q I (same ht)
    | v d => exact h.run pins s σ H Q I (same ht)
    | tg u d => exact h.run pins s σ H Q I (same ht)
    | own d0 =>
      obtain ⟨y, e1, p, e2, hF, o⟩ := en.at_ i _ hi
      subst e2
      obtain ⟨u0, u, hp, z, n, I1, x1, r1⟩ := own_freeze I (Ext.mk (F := fun _ => none) (H := fun _ => none) (fun _ _ e => (nomatch e)) (fun _ _ _ e => (nomatch e)) sb) rfl hF o
      refine thn (h.run pins s σ _ (fun v H' => ∃ F' d, Ext (upd F p u) (upd H p u) F' H' ∧ Rp X.K F' v d ∧ d.noLst = true ∧ Q0 d) I1 ⟨ρ.set i (.v d0), upd F p u, _, x1.sub, en.frz e1 hi hF r1, ht, fun v H' F' d x r q => ⟨F', d, x, r, q.1, q.2⟩⟩) fun w s1 ⟨v, H1, I2, rv, F1, d, x2, r2, q1, q⟩ => ?_
      obtain ⟨k1, k2, k3⟩ := unlend z hF hp x2
      exact ⟨v, _, own_thaw I2 k1 z n, rv, k _ _ _ _ k2 (r2.but k3 q1) q⟩
theorem pda_bor (i : Nat) (h : PDA X es tr) : PDA X es (dBorA i tr) := by
  refine ⟨fun ps pins s σ H Q I ⟨ρ, F, Q0, sb, en, ht, k⟩ => ?_⟩
  unfold dBorA DV.frz at ht
  have same : tr ρ (fun d => D.noLsts d = true ∧ Q0 d) → lfA X.K tr σ H Q := fun z => ⟨ρ, F, _, sb, en, z, fun v H' F' d x r q => k v H' F' d x r q.2⟩
  cases hi : ρ[i]? with
  | none => rw [hi] at ht; exact h.run ps pins s σ H Q I (same ht)
  | some sl =>
    rw [hi] at ht
    cases sl with
    | un => exact h.run ps pins s σ H Q I (same ht)
    | v d => exact h.run ps pins s σ H Q I (same ht)
    | tg u d => exact h.run ps pins s σ H Q I (same ht)
    | own d0 =>
      obtain ⟨y, e1, p, e2, hF, o⟩ := en.at_ i _ hi
      subst e2
      obtain ⟨u0, u, hp, z, n, I1, x1, r1⟩ := own_freeze I (Ext.mk (F := fun _ => none) (H := fun _ => none) (fun _ _ e => (nomatch e)) (fun _ _ _ e => (nomatch e)) sb) rfl hF o
      refine thn (h.run ps pins s σ _ (fun v H' => ∃ F' d, Ext (upd F p u) (upd H p u) F' H' ∧ RpA X.K F' v d ∧ D.noLsts d = true ∧ Q0 d) I1 ⟨ρ.set i (.v d0), upd F p u, _, x1.sub, en.frz e1 hi hF r1, ht, fun v H' F' d x r q => ⟨F', d, x, r, q.1, q.2⟩⟩) fun w s1 ⟨v, H1, I2, rv, F1, d, x2, r2, q1, q⟩ => ?_
      obtain ⟨k1, k2, k3⟩ := unlend z hF hp x2
      exact ⟨v, _, own_thaw I2 k1 z n, rv, k _ _ _ _ k2 (r2.but k3 q1) q⟩
end
section
variable {X : Cx} {elt tg iter : Expr} {ifs : List Expr} {scope : Scope} {own : List (Str × Nat)} {pos : Pos} {it : DI} {g : TG} {g' : DG} {tt : DT} {te : DE}
theorem lf_lco (hG : RelG X.K (own.map (·.2)) g g') : ∀ σ H Q, lfEo X.K (dLc it g' tt te (own.map (·.2))) σ H Q → tLc (lfI X.K it) g (lfT X.K tt) (lfE X.K te) (own.map (·.2)) σ H Q := fun σ H Q ⟨ρ, F, Q0, s, en, ht, k⟩ => by
  refine ⟨ρ, F, _, s, en, ht, fun J H1 F1 ds x1 io q Dd hD => ?_⟩
  have en1 := en.mono x1
  have hF1 := x1.sub.none hD
  refine ⟨fun i m H' => m = ds.length - i ∧ i ≤ ds.length ∧ ∃ F' acc xs, Ext F1 H1 F' H' ∧ F' Dd = none ∧ H' Dd = some (.lst xs) ∧ RpA X.K F' xs acc ∧ lcD g' tt te (wipeD ρ (own.map (·.2))) (ds.drop i) acc Q0,
    ⟨ds.length, rfl, Nat.zero_le _, F1, [], [], Ext.newO x1.sub hD, hF1, upd_same, .nil, q⟩, fun i m H' hW => ?_⟩
  obtain ⟨rfl, hle, F', acc, xs, x2, hF', hH', ra, q'⟩ := hW
  obtain ⟨h1, h2⟩ := io F' H' x2.mono x2.sub i
  by_cases hi : i < ds.length
  · obtain ⟨go, hy⟩ := h1 hi
    refine .inr ⟨go, fun H'' => ∃ F' acc xs, Ext F1 H1 F' H'' ∧ F' Dd = none ∧ H'' Dd = some (.lst xs) ∧ RpA X.K F' xs acc ∧ lcD g' tt te (wipeD ρ (own.map (·.2))) (ds.drop (i + 1)) acc Q0,
      fun H'' hN => ⟨ds.length - (i + 1), by omega, rfl, hi, hN⟩, fun x H2 hyx => ?_⟩
    obtain ⟨F2, d, x3, ed, rd⟩ := hy x H2 hyx
    rw [drop_cons ed] at q'
    have x23 := x2.trans x3
    have D2 := x3.keep Dd _ hF' hH'
    refine hG _ _ _ _ _ _ _ _ _ _ _ (Sta.empty x23.sub ((en1.mono x23).wipe _)) rd q' fun σ3 ρ3 s3 hw q3 => ⟨hw.trans (by
      have ww : ∀ (vs : List Nat) (σ : St), L2.wipe (L2.wipe σ vs) vs = L2.wipe σ vs := by
        intro vs σ
        have aux : ∀ (us : List Nat), (∀ u ∈ us, u ∈ vs) → L2.wipe (L2.wipe σ us) vs = L2.wipe σ vs := by
          intro us
          induction us with
          | nil => intro _; rfl
          | cons u r ih =>
            intro hu
            show L2.wipe ((L2.wipe σ r).set u none) vs = _
            rw [wipe_at (hu u List.mem_cons_self)]
            exact ih fun v hv => hu v (List.mem_cons_of_mem _ hv)
        exact aux vs fun u hu => hu
      exact ww _ _), ρ3, F2, _, s3.ext.sub, s3.env, q3, fun b H3 F3 x4 q4 => ?_⟩
    have x24 := x23.trans x4
    have D3 := x4.keep Dd _ D2.2 D2.1
    cases b with
    | false => exact iteF ⟨F3, acc, xs, x24, D3.2, D3.1, ra.mono (x3.mono.trans x4.mono), q4⟩
    | true =>
      refine iteT ⟨ρ3, F3, _, x4.sub, s3.env.mono x4, q4, fun y H4 F4 dy x5 ry q5 => ?_⟩
      have x25 := x24.trans x5
      have D4 := x5.keep Dd _ D3.2 D3.1
      have ra4 := ra.mono ((x3.mono.trans x4.mono).trans x5.mono)
      refine ⟨xs, D4.1, by rw [ra.length]; exact q5.1, F4, acc ++ [dy], xs ++ [y], ⟨x25.mono, fun a o e z => ?_, Ext.own x25.sub D4.2⟩, D4.2, upd_same, ra4.append (.cons ry .nil), q5.2⟩
      rw [upd_ne (ne_of_none z hD)]
      exact x25.keep a o e z
  · refine .inl ⟨h2 (by omega), ?_⟩
    have e : ds.drop i = [] := List.drop_eq_nil_of_le (by omega)
    rw [e] at q'
    exact k _ _ _ _ (x1.trans x2) (OwnV.lst (x1.noneBack s hD) hF' hH' ra) q'
theorem pdo_lc (hG : RelG X.K (own.map (·.2)) g g') (hc : X.calm = true) (hN : X.N.Nodup) (hi : PDI X tg iter it) (ok : BlkOk X.N X.env.scope scope own)
    (hg : ∀ (s : Shared) (H : Hp) (C : Addr) (cl : List (Str × Addr)) (fp : List Addr), PG (X.blk s H scope (compEnvC scope cl C X.env) fp) tg g)
    (ht : ∀ (s : Shared) (H : Hp) (C : Addr) (cl : List (Str × Addr)) (fp : List Addr), PTs (X.blk s H scope (compEnvC scope cl C X.env) fp) ifs (lfT X.K tt))
    (he : ∀ (s : Shared) (H : Hp) (C : Addr) (cl : List (Str × Addr)) (fp : List Addr), PE (X.blk s H scope (compEnvC scope cl C X.env) fp) elt (lfE X.K te)) (hs : ∀ x, foldedSetIterable iter X.env x = pure x := by intro _; rfl) :
    PDo X (.ListComp elt [⟨tg, iter, ifs, 0⟩] scope pos) (dLc it g' tt te (own.map (·.2))) := (pe_lc hc hN hi ok hg ht he hs).impD (lf_lco hG)
end

/-! ### an own list lent over a statement -/
def tagS (u : V) : Slot → Slot
  | .v d => .tg u d
  | s => s
def tagAll (vs : Nat → V) : Nat → List Slot → List Slot
  | _, [] => []
  | j, s :: ρ => tagS (vs j) s :: tagAll vs (j + 1) ρ
open Classical in
noncomputable def backS (isI : Bool) (u : V) (s : Slot) : Slot → Slot
  | .tg w _ => match s with
    | .v d => if w = u then .v d else .un
    | .tg w0 d => if w = w0 then .tg w0 d else .un
    | .own d => if isI = true ∧ w = u then .own d else .un
    | .un => .un
  | .v d => if d.noLst = true then .v d else .un
  | .own (.lst ds) => if D.noLsts ds = true then .own (.lst ds) else .un
  | .own (.dic ds) => if D.noLsts (ds.map (·.2)) = true then .own (.dic ds) else .un
  | _ => .un
noncomputable def backAll (vs : Nat → V) (i : Nat) : Nat → List Slot → List Slot → List Slot
  | j, s :: ρ, s' :: ρ' => backS (decide (j = i)) (vs j) s s' :: backAll vs i (j + 1) ρ ρ'
  | _, _, _ => []
theorem tagAll_get {vs : Nat → V} : ∀ {ρ : List Slot} {j k : Nat}, (tagAll vs j ρ)[k]? = (ρ[k]?).map (tagS (vs (j + k)))
  | [], _, _ => by simp [tagAll]
  | s :: ρ, j, 0 => by simp [tagAll]
  | s :: ρ, j, k + 1 => by
    simp only [tagAll, List.getElem?_cons_succ]
    rw [tagAll_get (ρ := ρ), show j + 1 + k = j + (k + 1) by omega]
theorem tagAll_len {vs : Nat → V} : ∀ {ρ : List Slot} {j : Nat}, (tagAll vs j ρ).length = ρ.length
  | [], _ => rfl
  | s :: ρ, j => by simp [tagAll, tagAll_len (ρ := ρ)]
theorem backAll_len {vs : Nat → V} {i : Nat} : ∀ {ρ ρ' : List Slot} {j : Nat}, ρ.length = ρ'.length → (backAll vs i j ρ ρ').length = ρ.length
  | [], [], _, _ => rfl
  | [], _ :: _, _, h => by simp at h
  | _ :: _, [], _, h => by simp at h
  | s :: ρ, s' :: ρ', j, h => by simp [backAll, backAll_len (ρ := ρ) (ρ' := ρ') (by simpa using h)]
theorem backAll_get {vs : Nat → V} {i : Nat} : ∀ {ρ ρ' : List Slot} {j k : Nat} {s : Slot}, (backAll vs i j ρ ρ')[k]? = some s → ∃ a b, ρ[k]? = some a ∧ ρ'[k]? = some b ∧ s = backS (decide (j + k = i)) (vs (j + k)) a b
  | [], [], _, _, _, h => by simp [backAll] at h
  | [], _ :: _, _, _, _, h => by simp [backAll] at h
  | _ :: _, [], _, _, _, h => by simp [backAll] at h
  | a :: ρ, b :: ρ', j, 0, s, h => by
    simp [backAll] at h
    exact ⟨a, b, rfl, rfl, by simpa using h.symm⟩
  | a :: ρ, b :: ρ', j, k + 1, s, h => by
    simp only [backAll, List.getElem?_cons_succ] at h
    obtain ⟨a', b', h1, h2, h3⟩ := backAll_get (ρ := ρ) (ρ' := ρ') h
    exact ⟨a', b', by simpa using h1, by simpa using h2, by rw [h3, show j + 1 + k = j + (k + 1) by omega]⟩
def sLend (i : Nat) (t : DS) : DS := fun N ρ => match ρ[i]? with
  | some (.own d) => ∀ vs : Nat → V, t { N with
      nx := fun ρ' => ρ'[i]? = some (.tg (vs i) d) ∧ ρ.length = ρ'.length ∧ N.nx (backAll vs i 0 ρ ρ'),
      bk := fun ρ' => ρ'[i]? = some (.tg (vs i) d) ∧ ρ.length = ρ'.length ∧ N.bk (backAll vs i 0 ρ ρ'),
      ct := fun ρ' => ρ'[i]? = some (.tg (vs i) d) ∧ ρ.length = ρ'.length ∧ N.ct (backAll vs i 0 ρ ρ') } (tagAll vs 0 (ρ.set i (.v d)))
  | _ => False
mutual
theorem kin_nl : ∀ {d : D}, d.kin = true → d.noLst = true
  | .int i, _ => rfl
  | .tup ds, h => by
    simp only [D.kin] at h
    simp only [D.noLst]
    exact kins_nl h
  | .non, h => by simp [D.kin] at h
  | .bl _, h => by simp [D.kin] at h
  | .str _, h => by simp [D.kin] at h
  | .lst _, h => by simp [D.kin] at h
  | .dic _, h => by simp [D.kin] at h
  | .bag, h => by simp [D.kin] at h
  | .scr, h => by simp [D.kin] at h
theorem kins_nl : ∀ {ds : List D}, D.kins ds = true → D.noLsts ds = true
  | [], _ => rfl
  | d :: ds, h => by
    simp only [D.kins, Bool.and_eq_true] at h
    simp only [D.noLsts, Bool.and_eq_true]
    exact ⟨kin_nl h.1, kins_nl h.2⟩
end
theorem keys_nl : ∀ {kvs : List (D × D)}, (∀ q ∈ kvs, q.1.kok = true) → D.noLsts (kvs.map (·.1)) = true
  | [], _ => rfl
  | q :: kvs, h => by
    simp only [List.map_cons, D.noLsts, Bool.and_eq_true]
    exact ⟨kin_nl (kok_kin (h q List.mem_cons_self)), keys_nl fun q' h' => h q' (List.mem_cons_of_mem _ h')⟩
theorem OwnAt.but {K : PySem.W.Frag} {F F' H H' : Hp} (m : ButLst F F') {p : Addr} (k : ∀ u, H p = some u → H' p = some u) : ∀ {d : D}, (match d with
    | .lst ds => D.noLsts ds = true
    | .dic ds => D.noLsts (ds.map (·.2)) = true
    | _ => True) → OwnAt K F H p d → OwnAt K F' H' p d
  | .lst ds, n, ⟨xs, e, r⟩ => ⟨xs, k _ e, r.but m n⟩
  | .dic kvs, n, .inl ⟨ks, e, r, q⟩ => .inl ⟨ks, k _ e, r.but m n, q⟩
  | .dic kvs, n, .inr ⟨rows, e, q0, q1, q2, r1, r2⟩ => .inr ⟨rows, k _ e, q0, q1, q2, r1.but m (keys_nl q2), r2.but m n⟩
theorem own_from {vs : Nat → V} {i : Nat} {ρ ρ' : List Slot} {j : Nat} {d : D} (h : (backAll vs i 0 ρ ρ')[j]? = some (Slot.own d)) : (∃ e, ρ'[j]? = some (.own e)) ∨ (j = i ∧ ∃ w d0, ρ'[j]? = some (.tg w d0) ∧ w = vs j) := by
  obtain ⟨a, b, ha, hb, e⟩ := backAll_get h
  rw [Nat.zero_add] at e
  cases b with
  | un => cases e
  | v d0 =>
    have e' : Slot.own d = if d0.noLst = true then Slot.v d0 else .un := e
    split at e' <;> cases e'
  | own d0 => exact .inl ⟨_, hb⟩
  | tg w d0 =>
    right
    cases a with
    | un => cases e
    | v d1 =>
      have e' : Slot.own d = if w = vs j then Slot.v d1 else .un := e
      split at e' <;> cases e'
    | tg w0 d1 =>
      have e' : Slot.own d = if w = w0 then Slot.tg w0 d1 else .un := e
      split at e' <;> cases e'
    | own d1 =>
      have e' : Slot.own d = if decide (j = i) = true ∧ w = vs j then Slot.own d1 else .un := e
      split at e'
      · rename_i z
        exact ⟨of_decide_eq_true z.1, w, d0, hb, z.2⟩
      · cases e'
theorem lend_back {K : PySem.W.Frag} {F0 H0 G F H : Hp} {σ : St} {ρ : List Slot} (so : Sta K F0 H0 G F σ H ρ) {i : Nat} {p : Addr} {d : D} {u0 u : HO} (z : FrzOf u0 u) (e1 : σ[i]? = some (some (.ref p))) (hi : ρ[i]? = some (.own d)) (hF : F p = none) (hp : H p = some u0) (o : OwnAt K F H p d)
    {vs : Nat → V} (hv : ∀ j v, σ[j]? = some (some v) → vs j = v) {σ' : St} {H' : Hp} {ρ' : List Slot} (s' : StOk K F0 H0 (upd F p u) σ' H' ρ') (hk : ρ'[i]? = some (.tg (vs i) d)) (lenr : ρ.length = ρ'.length) : H' p = some u ∧ StOk K F0 H0 G σ' (upd H' p u0) (backAll vs i 0 ρ ρ') := by
  obtain ⟨F', s'⟩ := s'
  have hp' : F' p = some u := s'.pin p _ upd_same
  have Hp' : H' p = some u := z.std (s'.ext.sub p _ hp')
  have h0 : H0 p = none := so.own i p _ e1 hi
  have hFF : Same F (delH F' p) := fun a o e => by
    have na : a ≠ p := ne_of_none e hF
    rw [delH_ne na]
    exact s'.pin a o (by rw [upd_ne na]; exact e)
  have bl : ButLst F' (delH F' p) := fun a o e => by
    by_cases h : a = p
    · subst h
      rw [hp'] at e; cases e
      exact .inr z.mutb
    · exact .inl (by rw [delH_ne h]; exact e)
  refine ⟨Hp', delH F' p, ⟨so.bse, so.pin.trans hFF, ⟨fun a o e => ?_, fun a o e q => ?_, fun a o e => ?_⟩, ⟨?_, fun j sl e => ?_, fun a b q d e hab h1 h2 h3 h4 => ?_⟩, fun j q d h1 h2 => ?_⟩⟩
  · exact hFF a o (so.ext.mono a o e)
  · have na : a ≠ p := ne_of_none q h0
    rw [upd_ne na, delH_ne na]
    exact s'.ext.keep a o e q
  · by_cases h : a = p
    · rw [h, delH_same] at e; cases e
    · rw [delH_ne h] at e
      refine (s'.ext.sub a o e).monoM (fun b e2 => ?_) fun u q => by rw [upd_ne h]; exact q
      have nb : b ≠ p := fun y => by
        rw [y, hp'] at e2
        exact z.noMark (Option.some.inj e2)
      rw [delH_ne nb]; exact e2
  · rw [backAll_len lenr, s'.env.len, lenr]
  · obtain ⟨a, b, ha, hb, rfl⟩ := backAll_get e
    rw [Nat.zero_add]
    obtain ⟨y, ey, ok⟩ := s'.env.at_ j b hb
    obtain ⟨y0, ey0, ok0⟩ := so.env.at_ j a ha
    refine ⟨y, ey, ?_⟩
    cases b with
    | un => exact True.intro
    | v d =>
      show SlotOk K (delH F' p) (upd H' p u0) y (if d.noLst = true then Slot.v d else .un)
      by_cases n : d.noLst = true
      · rw [if_pos n]
        obtain ⟨v, e4, r4⟩ := ok
        exact ⟨v, e4, r4.but bl n⟩
      · rw [if_neg n]; exact True.intro
    | own d =>
      obtain ⟨q, e4, hq, o4⟩ := ok
      have nq : q ≠ p := fun y => by rw [y, hp'] at hq; cases hq
      cases d <;> first | exact o4.elim | skip
      · rename_i es
        show SlotOk K (delH F' p) (upd H' p u0) y (if D.noLsts es = true then Slot.own (.lst es) else .un)
        by_cases n : D.noLsts es = true
        · rw [if_pos n]
          exact ⟨q, e4, by rw [delH_ne nq]; exact hq, o4.but bl (fun u y => by rw [upd_ne nq]; exact y) n⟩
        · rw [if_neg n]; exact True.intro
      · rename_i es
        show SlotOk K (delH F' p) (upd H' p u0) y (if D.noLsts (es.map (·.2)) = true then Slot.own (.dic es) else .un)
        by_cases n : D.noLsts (es.map (·.2)) = true
        · rw [if_pos n]
          exact ⟨q, e4, by rw [delH_ne nq]; exact hq, o4.but bl (fun u y => by rw [upd_ne nq]; exact y) n⟩
        · rw [if_neg n]; exact True.intro
    | tg w d1 =>
      obtain ⟨e4, r4⟩ := ok
      cases a with
      | un => exact True.intro
      | v d0 =>
        show SlotOk K (delH F' p) (upd H' p u0) y (if w = vs j then Slot.v d0 else .un)
        by_cases hw : w = vs j
        · rw [if_pos hw]
          obtain ⟨v, e5, r5⟩ := ok0
          subst e5
          have := hv j v ey0
          rw [← hw] at this
          subst this
          exact ⟨w, e4, r5.mono hFF⟩
        · rw [if_neg hw]; exact True.intro
      | tg w0 d0 =>
        show SlotOk K (delH F' p) (upd H' p u0) y (if w = w0 then Slot.tg w0 d0 else .un)
        by_cases hw : w = w0
        · rw [if_pos hw]
          subst hw
          exact ⟨e4, ok0.2.mono hFF⟩
        · rw [if_neg hw]; exact True.intro
      | own d0 =>
        show SlotOk K (delH F' p) (upd H' p u0) y (if decide (j = i) = true ∧ w = vs j then Slot.own d0 else .un)
        by_cases hw : decide (j = i) = true ∧ w = vs j
        · rw [if_pos hw]
          have hj : j = i := of_decide_eq_true hw.1
          subst hj
          rw [hi] at ha; cases ha
          have := hv j _ e1
          rw [e4, hw.2, this]
          exact ⟨p, rfl, delH_same, o.mono hFF fun u y => by rw [hp] at y; cases y; exact upd_same⟩
        · rw [if_neg hw]; exact True.intro
  · rcases own_from h2 with ⟨es, b2⟩ | ⟨rfl, w, d2, b2, rfl⟩
    · rcases own_from h4 with ⟨fs, b4⟩ | ⟨rfl, w, d4, b4, rfl⟩
      · exact s'.env.sep a b q _ _ hab h1 b2 h3 b4
      · obtain ⟨y, ey, q', eq, hq, _⟩ := s'.env.at_ a _ b2
        obtain ⟨z, ez, ew, _⟩ := s'.env.at_ b _ b4
        have := hv b _ e1
        rw [h1] at ey; cases ey; cases eq
        rw [h3] at ez; cases ez
        rw [this] at ew; cases ew
        rw [hp'] at hq; cases hq
    · rcases own_from h4 with ⟨fs, b4⟩ | ⟨rfl, w, d4, b4, rfl⟩
      · obtain ⟨y, ey, q', eq, hq, _⟩ := s'.env.at_ b _ b4
        obtain ⟨z, ez, ew, _⟩ := s'.env.at_ a _ b2
        have := hv a _ e1
        rw [h3] at ey; cases ey; cases eq
        rw [h1] at ez; cases ez
        rw [this] at ew; cases ew
        rw [hp'] at hq; cases hq
      · exact hab rfl
  · rcases own_from h2 with ⟨es, b2⟩ | ⟨rfl, w, d2, b2, rfl⟩
    · exact s'.own j q _ h1 b2
    · obtain ⟨z, ez, ew, _⟩ := s'.env.at_ j _ b2
      have := hv j _ e1
      rw [h1] at ez; cases ez
      rw [this] at ew; cases ew
      exact h0
theorem pds_lend {X : Cx} {st : Stmt} {t : DS} (i : Nat) (h : PDS X st t) : PDS X st (sLend i t) := by
  refine ⟨fun pins s σ H N I ⟨F0, H0, G, ρ, M, ⟨F, so⟩, ht, k⟩ => ?_⟩
  unfold sLend at ht
  cases hi : ρ[i]? with
  | none => rw [hi] at ht; exact ht.elim
  | some sl =>
    rw [hi] at ht
    cases sl with
    | un => exact ht.elim
    | v d => exact ht.elim
    | tg u d => exact ht.elim
    | own d =>
      obtain ⟨y, e1, p, e2, hF, o⟩ := so.env.at_ i _ hi
      subst e2
      have h0 : H0 p = none := so.own i p _ e1 hi
      obtain ⟨u0, u, hp, z, n, I1, x1, r1⟩ := own_freeze I so.ext h0 hF o
      have m : Same F (upd F p u) := same_upd hF
      let vs : Nat → V := fun j => match σ[j]? with
        | some (some v) => v
        | _ => .non
      have hv : ∀ j v, σ[j]? = some (some v) → vs j = v := fun j v e => by
        show (match σ[j]? with
          | some (some v) => v
          | _ => V.non) = v
        rw [e]
      have hl : i < ρ.length := (List.getElem?_eq_some_iff.mp hi).1
      have hk := ht vs
      have en := so.env.frz e1 hi hF r1
      have bk := fun {σ' : St} {H' : Hp} {ρ' : List Slot} (s' : StOk X.K F0 H0 (upd F p u) σ' H' ρ') (q : ρ'[i]? = some (.tg (vs i) d)) (ln : ρ.length = ρ'.length) => lend_back so z e1 hi hF hp o hv s' q ln
      have own : ∀ {a : Nat} {d' : D}, (tagAll vs 0 (ρ.set i (.v d)))[a]? = some (Slot.own d') → (ρ.set i (.v d))[a]? = some (.own d') := fun {a d'} h => by
        rw [tagAll_get] at h
        obtain ⟨s0, e0, z⟩ := Option.map_eq_some_iff.mp h
        cases s0 <;> first | (cases z; done) | skip
        rw [e0]; exact congrArg some z
      refine thn (h.run pins s σ _ ⟨fun σ' H' => H' p = some u ∧ N.nx σ' (upd H' p u0), N.rt, fun σ' H' => H' p = some u ∧ N.bk σ' (upd H' p u0), fun σ' H' => H' p = some u ∧ N.ct σ' (upd H' p u0)⟩ I1
        ⟨F0, H0, upd F p u, _, _, ⟨upd F p u, ⟨so.bse, Same.refl _, x1, ⟨by rw [tagAll_len]; exact en.len, fun j sl e => ?_, fun a b q d e hab a1 a2 a3 a4 => ?_⟩, fun j q d' a1 a2 => ?_⟩⟩, hk, ⟨fun σ' H' ρ' s' q => ?_, k.rt, k.ro, fun σ' H' ρ' s' q => ?_, fun σ' H' ρ' s' q => ?_⟩⟩) fun f s1 q => ?_
      · rw [tagAll_get, Nat.zero_add] at e
        obtain ⟨s0, e0, rfl⟩ := Option.map_eq_some_iff.mp e
        obtain ⟨y, ey, ok⟩ := en.at_ j s0 e0
        refine ⟨y, ey, ?_⟩
        cases s0 with
        | un => exact True.intro
        | v d =>
          obtain ⟨v, e4, r4⟩ := ok
          subst e4
          exact ⟨by rw [hv j v ey], by rw [hv j v ey]; exact r4⟩
        | tg u d => exact ok
        | own d => exact ok
      · exact en.sep a b q d e hab a1 (own a2) a3 (own a4)
      · have a3 := own a2
        by_cases hj : j = i
        · subst hj
          rw [List.getElem?_set_self hl] at a3
          cases a3
        · rw [List.getElem?_set_ne (Ne.symm hj)] at a3
          exact so.own j q _ a1 a3
      · obtain ⟨k1, k2⟩ := bk s' q.1 q.2.1
        exact ⟨k1, k.nx _ _ _ k2 q.2.2⟩
      · obtain ⟨k1, k2⟩ := bk s' q.1 q.2.1
        exact ⟨k1, k.bk _ _ _ k2 q.2.2⟩
      · obtain ⟨k1, k2⟩ := bk s' q.1 q.2.1
        exact ⟨k1, k.ct _ _ _ k2 q.2.2⟩
      · cases f with
        | next => obtain ⟨σ', H', I2, e, q⟩ := q; exact ⟨σ', _, own_thaw I2 e z n, q⟩
        | brk => obtain ⟨σ', H', I2, e, q⟩ := q; exact ⟨σ', _, own_thaw I2 e z n, q⟩
        | cont => obtain ⟨σ', H', I2, e, q⟩ := q; exact ⟨σ', _, own_thaw I2 e z n, q⟩
        | ret v => exact q
end DV

namespace DV
open PySem PySem.Spec PyProof.Rows L2

/-! ### dicts as data -/
def dgetD (kvs : List (D × D)) (k : D) : Option D := (kvs.find? fun z => D.eqb z.1 k).map (·.2)
def dputD (kvs : List (D × D)) (k v : D) : List (D × D) := if (kvs.any fun z => D.eqb z.1 k) = true then kvs.map (fun z => if D.eqb z.1 k = true then (z.1, v) else z) else kvs ++ [(k, v)]
def ddropD (kvs : List (D × D)) (k : D) : List (D × D) := kvs.filter fun z => !D.eqb z.1 k
def D.flt : D → Bool
  | .int _ => true
  | .str _ => true
  | _ => false
/-- keys of one kind: numbers and texts, or tuples of numbers -/
def keyFor (kvs : List (D × D)) (x : D) : Prop := (x.flt = true ∧ ∀ q ∈ kvs, q.1.flt = true) ∨ (x.kok = true ∧ ∀ q ∈ kvs, q.1.kok = true)
mutual
theorem eqb_nb : ∀ {d e : D}, d.kin = true → e.kin = true → D.eqb d e = NestedKey.beq d.nk e.nk
  | .int i, .int j, _, _ => by
    simp only [D.eqb, D.nk, NestedKey.beq]
    rfl
  | .int i, .tup es, _, _ => by simp only [D.eqb, D.nk, NestedKey.beq]
  | .tup ds, .int j, _, _ => by simp only [D.eqb, D.nk, NestedKey.beq]
  | .tup ds, .tup es, h, g => by
    simp only [D.kin] at h g
    simp only [D.eqb, D.nk, NestedKey.beq]
    exact eqbs_nk h g
  | .non, _, h, _ => by simp [D.kin] at h
  | .bl _, _, h, _ => by simp [D.kin] at h
  | .str _, _, h, _ => by simp [D.kin] at h
  | .lst _, _, h, _ => by simp [D.kin] at h
  | .dic _, _, h, _ => by simp [D.kin] at h
  | .bag, _, h, _ => by simp [D.kin] at h
  | .scr, _, h, _ => by simp [D.kin] at h
  | .int _, .non, _, h => by simp [D.kin] at h
  | .int _, .bl _, _, h => by simp [D.kin] at h
  | .int _, .str _, _, h => by simp [D.kin] at h
  | .int _, .lst _, _, h => by simp [D.kin] at h
  | .int _, .dic _, _, h => by simp [D.kin] at h
  | .int _, .bag, _, h => by simp [D.kin] at h
  | .int _, .scr, _, h => by simp [D.kin] at h
  | .tup _, .non, _, h => by simp [D.kin] at h
  | .tup _, .bl _, _, h => by simp [D.kin] at h
  | .tup _, .str _, _, h => by simp [D.kin] at h
  | .tup _, .lst _, _, h => by simp [D.kin] at h
  | .tup _, .dic _, _, h => by simp [D.kin] at h
  | .tup _, .bag, _, h => by simp [D.kin] at h
  | .tup _, .scr, _, h => by simp [D.kin] at h
theorem eqbs_nk : ∀ {ds es : List D}, D.kins ds = true → D.kins es = true → D.eqbs ds es = NestedKey.beqAll (D.nks ds) (D.nks es)
  | [], [], _, _ => by simp only [D.eqbs, D.nks, NestedKey.beqAll]
  | [], _ :: _, _, _ => by simp only [D.eqbs, D.nks, NestedKey.beqAll]
  | _ :: _, [], _, _ => by simp only [D.eqbs, D.nks, NestedKey.beqAll]
  | d :: ds, e :: es, h, g => by
    simp only [D.kins, Bool.and_eq_true] at h g
    simp only [D.eqbs, D.nks, NestedKey.beqAll]
    rw [eqb_nb h.1 g.1, eqbs_nk h.2 g.2]
end
theorem eqb_nk {d e : D} (h : d.kin = true) (g : e.kin = true) : D.eqb d e = decide (d.nk = e.nk) := (eqb_nb h g).trans (NestedKey.decide_eq _ _).symm
theorem eqb_key (a b : L2.Key) : D.eqb (keyD a) (keyD b) = decide (a = b) := by
  rcases a with i | x <;> rcases b with j | y
  · show D.eqb (.int i) (.int j) = _
    simp only [D.eqb]
    by_cases h : i = j
    · subst h; simp
    · rw [decide_eq_false (by simpa using h)]; simpa using h
  · show D.eqb (.int i) (.str y) = _
    simp only [D.eqb]
    exact (decide_eq_false (by simp)).symm
  · show D.eqb (.str x) (.int j) = _
    simp only [D.eqb]
    exact (decide_eq_false (by simp)).symm
  · show D.eqb (.str x) (.str y) = _
    simp only [D.eqb]
    by_cases h : x = y
    · subst h; simp
    · rw [decide_eq_false (by simpa using h)]; simpa using h
theorem keyD_kok (k : L2.Key) : (keyD k).kok = false := by rcases k with i | x <;> rfl
theorem flt_key {d : D} (h : d.flt = true) : ∃ k : L2.Key, d = keyD k := by
  cases d <;> first | (simp [D.flt] at h; done) | skip
  · exact ⟨.inl _, rfl⟩
  · exact ⟨.inr _, rfl⟩
theorem kok_flt {d : D} (h : d.kok = true) : d.flt = false := by
  cases d <;> first | rfl | (simp [D.kok] at h; done)
section
variable {X : Cx} {pins : List (Addr × Obj)} {σ : L2.St} {F H : Hp} {s : Shared}
mutual
theorem nk_is (I : Inv X pins σ H s) (sb : Sub F H) : ∀ {d : D} {v : V} {u : Value}, d.kin = true → Rp X.K F v d → RelV v u → NestedIs s.heap d.nk u
  | .int i, _, u, _, .int _, e => by
    obtain ⟨t, rfl⟩ := (show ∃ t, u = Value.int i t from e)
    exact .int i t
  | .tup ds, _, u, h, .tup hs ra, e => by
    cases (show u = Value.ref _ from e)
    simp only [D.kin] at h
    obtain ⟨its, r, ⟨o, h1, h2, n, h3⟩, _⟩ := I.tuple (sb.seqT hs)
    exact .tup h1 h2 h3 (by simpa using nks_is I sb h ra r)
  | .non, _, _, h, _, _ => by simp [D.kin] at h
  | .bl _, _, _, h, _, _ => by simp [D.kin] at h
  | .str _, _, _, h, _, _ => by simp [D.kin] at h
  | .lst _, _, _, h, _, _ => by simp [D.kin] at h
  | .dic _, _, _, h, _, _ => by simp [D.kin] at h
  | .bag, _, _, h, _, _ => by simp [D.kin] at h
  | .scr, _, _, h, _, _ => by simp [D.kin] at h
theorem nks_is (I : Inv X pins σ H s) (sb : Sub F H) : ∀ {ds : List D} {vs : List V} {us : List Value}, D.kins ds = true → RpA X.K F vs ds → Vals vs us → NestedAll s.heap (D.nks ds) us
  | [], _, _, _, .nil, .nil => .nil
  | d :: ds, _, _, h, .cons r ra, .cons e er => by
    simp only [D.kins, Bool.and_eq_true] at h
    exact .cons (nk_is I sb h.1 r e) (nks_is I sb h.2 ra er)
end
theorem key_is (I : Inv X pins σ H s) (sb : Sub F H) {d : D} {b : Addr} (h : d.kok = true) (r : Rp X.K F (.ref b) d) : (nestedKind X.prog X.w).is s.heap d.nk b := ⟨nk_is I sb (kok_kin h) r rfl, kok_depth h⟩
theorem kok_ref {d : D} {v : V} (h : d.kok = true) (r : Rp X.K F v d) : ∃ b, v = .ref b := by
  cases r <;> first | (simp [D.kok] at h; done) | exact ⟨_, rfl⟩
theorem keys_r3 : ∀ {rows : List (NestedKey × Addr × V)} {xs : List (NestedKey × Addr × Value)}, Paired R3 rows xs → xs.map (·.1) = rows.map (·.1)
  | _, _, .nil => rfl
  | _, _, .cons hq t => by rw [List.map_cons, List.map_cons, keys_r3 t, hq.1]
/-- the entries of a dict with tuples as keys -/
theorem dkO_of (I : Inv X pins σ H s) (sb : Sub F H) {a : Addr} {rows : List (NestedKey × Addr × V)} {kvs : List (D × D)} (h : Rd H a (DkO a rows)) (k1 : rows.map (·.1) = kvs.map (fun p => p.1.nk)) (k2 : ∀ p ∈ kvs, p.1.kok = true) (r1 : RpA X.K F (rows.map fun r => V.ref r.2.1) (kvs.map (·.1))) :
    (a == sysModules) = false ∧ rows.length ≤ sizeLine ∧ ∃ xs, Paired R3 rows xs ∧ s.heap.DictOfH (nestedKind X.prog X.w) a xs := by
  obtain ⟨⟨z, y, nd, xs, o, es, ep, pr, h1, h2, h3, h4⟩, _⟩ := (show ObjOk X.prog X.w H s.heap a (DkO a rows) from h.ok I.hok)
  refine ⟨y, z, xs, pr, o, es, ep, h1, h2, h3, ?_, ?_, ?_⟩
  · rw [h4]
    refine List.map_congr_left fun x hx => ?_
    have key : ∀ {rows : List (NestedKey × Addr × V)} {xs : List (NestedKey × Addr × Value)} {kvs : List (D × D)}, Paired R3 rows xs → rows.map (·.1) = kvs.map (fun p => p.1.nk) → (∀ p ∈ kvs, p.1.kok = true) → ∀ x ∈ xs, hN x.1 = x.1.hash X.w := by
      intro rows xs kvs pr
      induction pr generalizing kvs with
      | nil => intro _ _ x hx; exact nomatch hx
      | @cons p q ps qs hq t ih =>
        intro e k x hx
        rcases kvs with _ | ⟨kv, kvs⟩
        · simp at e
        · simp only [List.map_cons, List.cons.injEq] at e
          rcases List.mem_cons.mp hx with rfl | hx
          · rw [← hq.1, e.1]
            exact hN_eq (kok_kin (k kv List.mem_cons_self))
          · exact ih e.2 (fun p hp => k p (List.mem_cons_of_mem _ hp)) x hx
    show (⟨hN x.1, .ref x.2.1, x.2.2⟩ : DictEntry) = ⟨(nestedKind X.prog X.w).hash x.1, .ref x.2.1, x.2.2⟩
    rw [key pr k1 k2 x hx]; rfl
  · have key : ∀ {rows : List (NestedKey × Addr × V)} {xs : List (NestedKey × Addr × Value)} {kvs : List (D × D)}, Paired R3 rows xs → rows.map (·.1) = kvs.map (fun p => p.1.nk) → (∀ p ∈ kvs, p.1.kok = true) → RpA X.K F (rows.map fun r => V.ref r.2.1) (kvs.map (·.1)) → ∀ x ∈ xs, (nestedKind X.prog X.w).is s.heap x.1 x.2.1 := by
      intro rows xs kvs pr
      induction pr generalizing kvs with
      | nil => intro _ _ _ x hx; exact nomatch hx
      | @cons p q ps qs hq t ih =>
        intro e k r x hx
        rcases kvs with _ | ⟨kv, kvs⟩
        · simp at e
        · simp only [List.map_cons, List.cons.injEq] at e
          rw [List.map_cons, List.map_cons] at r
          cases r with
          | cons r1 r2 =>
            rcases List.mem_cons.mp hx with rfl | hx
            · rw [← hq.1, e.1, ← hq.2.1]
              exact key_is I sb (k kv List.mem_cons_self) r1
            · exact ih e.2 (fun p hp => k p (List.mem_cons_of_mem _ hp)) r2 x hx
    exact key pr k1 k2 r1
  · rw [keys_r3 pr]; exact nd
/-- what stands at a key -/
theorem look_rows {F : Hp} {K : PySem.W.Frag} {k : D} (hk : k.kin = true) : ∀ {rows : List (NestedKey × Addr × V)} {xs : List (NestedKey × Addr × Value)} {kvs : List (D × D)}, Paired R3 rows xs → rows.map (·.1) = kvs.map (fun p => p.1.nk) → (∀ p ∈ kvs, p.1.kok = true) → RpA K F (rows.map (·.2.2)) (kvs.map (·.2)) →
    match dgetD kvs k with
    | some d => ∃ p v, atKey xs k.nk = some p ∧ RelV v p.2 ∧ Rp K F v d
    | none => atKey xs k.nk = none := by
  intro rows xs kvs pr
  induction pr generalizing kvs with
  | nil =>
    intro e _ _
    rcases kvs with _ | ⟨kv, kvs⟩
    · rfl
    · simp at e
  | @cons p q ps qs hq t ih =>
    intro e kk r
    rcases kvs with _ | ⟨kv, kvs⟩
    · simp at e
    · simp only [List.map_cons, List.cons.injEq] at e
      rw [List.map_cons, List.map_cons] at r
      cases r with
      | cons r1 r2 =>
        have eb := eqb_nk (kok_kin (kk kv List.mem_cons_self)) hk
        by_cases h : kv.1.nk = k.nk
        · rw [decide_eq_true h] at eb
          have e1 : dgetD (kv :: kvs) k = some kv.2 := by simp [dgetD, eb]
          have e2 : atKey (q :: qs) k.nk = some q.2 := by
            have : q.1 = k.nk := by rw [← hq.1, e.1, h]
            simp [atKey, this]
          rw [e1]
          exact ⟨q.2, p.2.2, e2, hq.2.2, r1⟩
        · rw [decide_eq_false h] at eb
          have e1 : dgetD (kv :: kvs) k = dgetD kvs k := by simp [dgetD, eb]
          have e2 : atKey (q :: qs) k.nk = atKey qs k.nk := by
            have : ¬ q.1 = k.nk := by rw [← hq.1, e.1]; exact h
            simp [atKey, this]
          rw [e1, e2]
          exact ih e.2 (fun p hp => kk p (List.mem_cons_of_mem _ hp)) r2
theorem look_flat {F : Hp} {K : PySem.W.Frag} {k : L2.Key} : ∀ {ks : List (L2.Key × V)} {kvs : List (D × D)}, RpA K F (ks.map (·.2)) (kvs.map (·.2)) → kvs.map (·.1) = ks.map (fun p => keyD p.1) →
    match dgetD kvs (keyD k) with
    | some d => ∃ v, valV ks k = some v ∧ Rp K F v d
    | none => valV ks k = none
  | [], [], _, _ => rfl
  | [], _ :: _, _, e => by simp at e
  | _ :: _, [], _, e => by simp at e
  | p :: ks, kv :: kvs, r, e => by
    simp only [List.map_cons, List.cons.injEq] at e
    rw [List.map_cons, List.map_cons] at r
    cases r with
    | cons r1 r2 =>
      have eb := eqb_key p.1 k
      rw [← e.1] at eb
      by_cases h : p.1 = k
      · rw [decide_eq_true h] at eb
        have e1 : dgetD (kv :: kvs) (keyD k) = some kv.2 := by simp [dgetD, eb]
        rw [e1]
        exact ⟨p.2, valV_pos h, r1⟩
      · rw [decide_eq_false h] at eb
        have e1 : dgetD (kv :: kvs) (keyD k) = dgetD kvs (keyD k) := by simp [dgetD, eb]
        rw [e1, valV_neg h]
        exact look_flat r2 e.2
/-! ### k in d -/
/-- a dict's entry at a key, as the heap has it -/
theorem dict_in (I : Inv X pins σ H s) (sb : Sub F H) {v w : V} {u : Value} {kvs : List (D × D)} {k : D} (rk : Rp X.K F v k) (ru : RelV v u) (r : Rp X.K F w (.dic kvs)) (kf : keyFor kvs k) :
    (∃ a, w = .ref a ∧ DGet H a v none ∧ dgetD kvs k = none) ∨ (∃ a x d, w = .ref a ∧ DGet H a v (some x) ∧ dgetD kvs k = some d ∧ Rp X.K F x d) ∨
    ∃ (a b : Addr) (xs : List (NestedKey × Addr × Value)), w = .ref a ∧ v = .ref b ∧ (a == sysModules) = false ∧ (nestedKind X.prog X.w).is s.heap k.nk b ∧ s.heap.DictOfH (nestedKind X.prog X.w) a xs ∧
      match dgetD kvs k with
      | some d => ∃ p y, atKey xs k.nk = some p ∧ RelV y p.2 ∧ Rp X.K F y d
      | none => atKey xs k.nk = none := by
  cases r with
  | @dic a o ks _ h ra e =>
    rcases kf with ⟨h1, _⟩ | ⟨h1, h2⟩
    · obtain ⟨kk, rfl⟩ := flt_key h1
      have ev : v = kV kk := by
        rcases kk with i | x
        · cases rk; rfl
        · cases rk; rfl
      subst ev
      have l := look_flat (k := kk) ra e
      have g : DGet H a (kV kk) (valV ks kk) := .inl ⟨ks, kk, .inr ⟨o, sb.frz h⟩, rfl, rfl⟩
      cases q : dgetD kvs (keyD kk) with
      | none => rw [q] at l; rw [show valV ks kk = none from l] at g; exact .inl ⟨a, rfl, g, rfl⟩
      | some d =>
        rw [q] at l
        obtain ⟨x, l1, l2⟩ := l
        rw [l1] at g
        exact .inr (.inl ⟨a, x, d, rfl, g, rfl, l2⟩)
    · have e0 : kvs = [] := by
        rcases kvs with _ | ⟨kv, kvs⟩
        · rfl
        · rcases ks with _ | ⟨p, ks⟩
          · simp at e
          · simp only [List.map_cons, List.cons.injEq] at e
            have := h2 kv List.mem_cons_self
            rw [e.1, keyD_kok] at this
            cases this
      subst e0
      have ek : ks = [] := by
        rcases ks with _ | ⟨p, ks⟩
        · rfl
        · simp at e
      subst ek
      obtain ⟨b, rfl⟩ := kok_ref h1 rk
      obtain ⟨_, hd, vs, rel, ob, es, ep, g1, g2, g3, _, g4, _⟩ := dk_rd I.hok (.inr ⟨o, sb.frz h⟩)
      have ev : vs = [] := by cases rel; rfl
      subst ev
      have ee : es.toList = [] := by
        have := g4
        cases h : es.toList with
        | nil => rfl
        | cons z zs => rw [h] at this; cases this
      exact .inr (.inr ⟨a, b, [], rfl, rfl, hd, key_is I sb h1 rk, ⟨ob, es, ep, g1, g2, g3, by rw [ee]; rfl, fun _ z => (nomatch z), .nil⟩, rfl⟩)
  | @dicT a o rows _ h k0 k1 k2 r1 r2 =>
    rcases kf with ⟨h1, h2⟩ | ⟨h1, _⟩
    · exfalso
      rcases kvs with _ | ⟨kv, kvs⟩
      · exact k0 rfl
      · have a1 := h2 kv List.mem_cons_self
        rw [kok_flt (k2 kv List.mem_cons_self)] at a1
        cases a1
    · obtain ⟨b, rfl⟩ := kok_ref h1 rk
      obtain ⟨hd, hz, xs, pr, dd⟩ := dkO_of I sb (.inr ⟨o, sb.frz h⟩) k1 k2 r1
      exact .inr (.inr ⟨a, b, xs, rfl, rfl, hd, key_is I sb h1 rk, dd, look_rows (kok_kin h1) pr k1 k2 r2⟩)
def rInK (K : PySem.W.Frag) : R2 := fun x y H Q => ∃ F k kvs, Sub F H ∧ Rp K F x k ∧ Rp K F y (.dic kvs) ∧ keyFor kvs k ∧ Q (.bl (dgetD kvs k).isSome) H
def rNotInK (K : PySem.W.Frag) : R2 := fun x y H Q => ∃ F k kvs, Sub F H ∧ Rp K F x k ∧ Rp K F y (.dic kvs) ∧ keyFor kvs k ∧ Q (.bl (!(dgetD kvs k).isSome)) H
theorem op_inK (hu : X.A.units + 65 < cLine) : OpR X (compareOp .In) (rInK X.K) := by
  intro pins s σ H x y v u Q I rx ry ⟨F, k, kvs, sb, rk, rd, kf, q⟩
  rcases dict_in I sb rk rx rd kf with ⟨a, rfl, g, e⟩ | ⟨a, z, d, rfl, g, e, r⟩ | ⟨a, b, xs, rfl, rfl, hd, hk, dd, l⟩
  · cases (show u = Value.ref a from ry)
    refine d_in (by omega) I g rx fun s' I' => ⟨.bl _, H, I', rfl, ?_⟩
    rw [e] at q; exact q
  · cases (show u = Value.ref a from ry)
    refine d_in (by omega) I g rx fun s' I' => ⟨.bl _, H, I', rfl, ?_⟩
    rw [e] at q; exact q
  · cases (show u = Value.ref a from ry)
    cases (show v = Value.ref b from rx)
    refine wpAny_in_heap (show X.A.in1.units + 8 < cLine by rw [Around.in1_units]; omega) hk hd dd ⟨.bl _, H, I.tok _, rfl, ?_⟩
    cases e : dgetD kvs k with
    | none => rw [e] at l q; rw [show atKey xs k.nk = none from l]; exact q
    | some d => rw [e] at l q; obtain ⟨p, y, l1, _⟩ := l; rw [l1]; exact q
theorem op_notInK (hu : X.A.units + 65 < cLine) : OpR X (compareOp .NotIn) (rNotInK X.K) := by
  intro pins s σ H x y v u Q I rx ry ⟨F, k, kvs, sb, rk, rd, kf, q⟩
  rcases dict_in I sb rk rx rd kf with ⟨a, rfl, g, e⟩ | ⟨a, z, d, rfl, g, e, r⟩ | ⟨a, b, xs, rfl, rfl, hd, hk, dd, l⟩
  · cases (show u = Value.ref a from ry)
    refine d_notIn (by omega) I g rx fun s' I' => ⟨.bl _, H, I', rfl, ?_⟩
    rw [e] at q; exact q
  · cases (show u = Value.ref a from ry)
    refine d_notIn (by omega) I g rx fun s' I' => ⟨.bl _, H, I', rfl, ?_⟩
    rw [e] at q; exact q
  · cases (show u = Value.ref a from ry)
    cases (show v = Value.ref b from rx)
    refine wpAny_notIn_heap (show X.A.in1.units + 8 < cLine by rw [Around.in1_units]; omega) hk hd dd ⟨.bl _, H, I.tok _, rfl, ?_⟩
    cases e : dgetD kvs k with
    | none => rw [e] at l q; rw [show atKey xs k.nk = none from l]; exact q
    | some d => rw [e] at l q; obtain ⟨p, y, l1, _⟩ := l; rw [l1]; exact q
def inKD : D2 := fun x y Q => match y with
  | .dic kvs => keyFor kvs x ∧ Q (.bl (dgetD kvs x).isSome)
  | _ => False
def notInKD : D2 := fun x y Q => match y with
  | .dic kvs => keyFor kvs x ∧ Q (.bl (!(dgetD kvs x).isSome))
  | _ => False
theorem od_inK {K : PySem.W.Frag} : OpD K (rInK K) inKD := fun F H x y dx dy Q0 Q s rx ry q k => by
  cases dy <;> first | exact q.elim | skip
  exact ⟨F, dx, _, s, rx, ry, q.1, k _ H F _ (.refl s) (.bl _) q.2⟩
theorem od_notInK {K : PySem.W.Frag} : OpD K (rNotInK K) notInKD := fun F H x y dx dy Q0 Q s rx ry q k => by
  cases dy <;> first | exact q.elim | skip
  exact ⟨F, dx, _, s, rx, ry, q.1, k _ H F _ (.refl s) (.bl _) q.2⟩
end
end DV

namespace DV
open PySem PySem.Spec PyProof.Rows L2

/-! ### dicts of one's own are written -/
theorem Sta.putOwnG {K : PySem.W.Frag} {F0 H0 G F H : Hp} {σ : L2.St} {ρ : List Slot} (s : Sta K F0 H0 G F σ H ρ) {i : Nat} {p : Addr} {d : D} {u : HO} {d' : D} (h1 : σ[i]? = some (some (.ref p))) (h2 : ρ[i]? = some (.own d)) (o : OwnAt K F (upd H p u) p d') :
    Sta K F0 H0 G F σ (upd H p u) (ρ.set i (.own d')) := by
  obtain ⟨x, e1, p', e2, hF, _⟩ := s.env.at_ i _ h2
  rw [h1] at e1; cases e1; cases e2
  have h0 := s.own i p d h1 h2
  have hl : i < ρ.length := (List.getElem?_eq_some_iff.mp h2).1
  refine ⟨s.bse, s.pin, ⟨s.ext.mono, fun a o' e q => ?_, Ext.own s.ext.sub hF⟩, ⟨by simp [s.env.len], fun j sl e => ?_, fun a b q d1 e' hab a1 a2 a3 a4 => ?_⟩, fun j q d1 a1 a2 => ?_⟩
  · rw [upd_ne (ne_of_none q h0)]
    exact s.ext.keep a o' e q
  · by_cases hj : j = i
    · subst hj
      rw [List.getElem?_set_self hl] at e
      cases e
      exact ⟨_, h1, p, rfl, hF, o⟩
    · rw [List.getElem?_set_ne (Ne.symm hj)] at e
      obtain ⟨x, e1, ok⟩ := s.env.at_ j sl e
      refine ⟨x, e1, ?_⟩
      cases sl with
      | un => trivial
      | v d => exact ok
      | tg u d => exact ok
      | own d1 =>
        obtain ⟨p2, e2, hF2, o2⟩ := ok
        refine ⟨p2, e2, hF2, o2.mono (Same.refl F) fun u q => ?_⟩
        have : p2 ≠ p := fun z => by
          subst z
          exact s.env.sep j i p2 d1 d hj (by rw [e1, e2]) e h1 h2
        rw [upd_ne this]; exact q
  · have own : ∀ {j : Nat} {d : D}, (ρ.set i (Slot.own d'))[j]? = some (.own d) → ∃ d', ρ[j]? = some (Slot.own d') := fun {j d} h => by
      by_cases hj : j = i
      · exact ⟨_, by rw [hj]; exact h2⟩
      · rw [List.getElem?_set_ne (Ne.symm hj)] at h
        exact ⟨_, h⟩
    obtain ⟨d1, b2⟩ := own a2
    obtain ⟨d2, b4⟩ := own a4
    exact s.env.sep a b q d1 d2 hab a1 b2 a3 b4
  · by_cases hj : j = i
    · subst hj
      rw [h1] at a1; cases a1
      exact h0
    · rw [List.getElem?_set_ne (Ne.symm hj)] at a2
      exact s.own j q d1 a1 a2

/-! rows and data -/
def DR (K : PySem.W.Frag) (F : Hp) (r : NestedKey × Addr × V) (p : D × D) : Prop := r.1 = p.1.nk ∧ p.1.kok = true ∧ Rp K F (.ref r.2.1) p.1 ∧ Rp K F r.2.2 p.2
theorem dr_of {K : PySem.W.Frag} {F : Hp} : ∀ {rows : List (NestedKey × Addr × V)} {kvs : List (D × D)}, rows.map (·.1) = kvs.map (fun p => p.1.nk) → (∀ p ∈ kvs, p.1.kok = true) → RpA K F (rows.map fun r => V.ref r.2.1) (kvs.map (·.1)) → RpA K F (rows.map (·.2.2)) (kvs.map (·.2)) → Paired (DR K F) rows kvs
  | [], [], _, _, _, _ => .nil
  | [], _ :: _, e, _, _, _ => by simp at e
  | _ :: _, [], e, _, _, _ => by simp at e
  | r :: rows, p :: kvs, e, k, r1, r2 => by
    simp only [List.map_cons, List.cons.injEq] at e
    rw [List.map_cons, List.map_cons] at r1 r2
    cases r1 with
    | cons a1 a2 =>
      cases r2 with
      | cons b1 b2 => exact .cons ⟨e.1, k p List.mem_cons_self, a1, b1⟩ (dr_of e.2 (fun q hq => k q (List.mem_cons_of_mem _ hq)) a2 b2)
theorem dr_to {K : PySem.W.Frag} {F : Hp} : ∀ {rows : List (NestedKey × Addr × V)} {kvs : List (D × D)}, Paired (DR K F) rows kvs → rows.map (·.1) = kvs.map (fun p => p.1.nk) ∧ (∀ p ∈ kvs, p.1.kok = true) ∧ RpA K F (rows.map fun r => V.ref r.2.1) (kvs.map (·.1)) ∧ RpA K F (rows.map (·.2.2)) (kvs.map (·.2))
  | _, _, .nil => ⟨rfl, (fun _ h => nomatch h), RpA.nil, RpA.nil⟩
  | _, _, .cons h t => by
    obtain ⟨a, b, c, d⟩ := dr_to t
    refine ⟨by rw [List.map_cons, List.map_cons, a, h.1], fun p hp => ?_, .cons h.2.2.1 c, .cons h.2.2.2 d⟩
    rcases List.mem_cons.mp hp with rfl | hp
    · exact h.2.1
    · exact b p hp
theorem DR.mono {K : PySem.W.Frag} {F F' : Hp} (m : Same F F') : ∀ {rows : List (NestedKey × Addr × V)} {kvs : List (D × D)}, Paired (DR K F) rows kvs → Paired (DR K F') rows kvs
  | _, _, .nil => .nil
  | _, _, .cons h t => .cons ⟨h.1, h.2.1, h.2.2.1.mono m, h.2.2.2.mono m⟩ (DR.mono m t)
def storedV (rows : List (NestedKey × Addr × V)) (k : NestedKey) (b : Addr) (v : V) : List (NestedKey × Addr × V) :=
  if (rows.any fun r => decide (r.1 = k)) = true then rows.map (fun r => if r.1 = k then (r.1, r.2.1, v) else r) else rows ++ [(k, b, v)]
theorem paired_append {α β : Type} {R : α → β → Prop} : ∀ {a c : List α} {b d : List β}, Paired R a b → Paired R c d → Paired R (a ++ c) (b ++ d)
  | _, _, _, _, .nil, q => q
  | _, _, _, _, .cons h t, q => .cons h (paired_append t q)
theorem any_r3 (k : NestedKey) : ∀ {rows : List (NestedKey × Addr × V)} {xs : List (NestedKey × Addr × Value)}, Paired R3 rows xs → (atKey xs k).isSome = rows.any fun r => decide (r.1 = k)
  | _, _, .nil => rfl
  | r :: rows, x :: xs, .cons h t => by
    rw [List.any_cons]
    by_cases e : r.1 = k
    · have e' : x.1 = k := h.1.symm.trans e
      rw [decide_eq_true e]
      simp [atKey, e']
    · have e' : ¬ x.1 = k := fun z => e (h.1.trans z)
      rw [decide_eq_false e, Bool.false_or, ← any_r3 k t]
      simp [atKey, e']
theorem r3_put {rows : List (NestedKey × Addr × V)} {xs : List (NestedKey × Addr × Value)} (h : Paired R3 rows xs) (k : NestedKey) (b : Addr) {v : V} {u : Value} (r : RelV v u) : Paired R3 (storedV rows k b v) (storedH xs k b u) := by
  unfold storedV storedH
  rw [any_r3 k h]
  split
  · rename_i hh
    clear hh
    induction h with
    | nil => exact .nil
    | @cons p q ps qs hq t ih =>
      rw [List.map_cons, List.map_cons]
      refine .cons ?_ ih
      by_cases e : p.1 = k
      · rw [if_pos e]
        unfold putAt
        rw [if_pos (hq.1.symm.trans e)]
        exact ⟨hq.1, hq.2.1, r⟩
      · rw [if_neg e]
        unfold putAt
        rw [if_neg (fun z => e (hq.1.trans z))]
        exact hq
  · exact paired_append h (.cons ⟨rfl, rfl, r⟩ .nil)
theorem any_dr {K : PySem.W.Frag} {F : Hp} {k : D} (hk : k.kin = true) : ∀ {rows : List (NestedKey × Addr × V)} {kvs : List (D × D)}, Paired (DR K F) rows kvs → (rows.any fun r => decide (r.1 = k.nk)) = kvs.any fun z => D.eqb z.1 k
  | _, _, .nil => rfl
  | r :: rows, p :: kvs, .cons h t => by
    rw [List.any_cons, List.any_cons, any_dr hk t, eqb_nk (kok_kin h.2.1) hk]
    congr 2
    rw [h.1]
theorem dr_put {K : PySem.W.Frag} {F : Hp} {rows : List (NestedKey × Addr × V)} {kvs : List (D × D)} (h : Paired (DR K F) rows kvs) {k d : D} {b : Addr} {v : V} (hk : k.kok = true) (rk : Rp K F (.ref b) k) (rv : Rp K F v d) : Paired (DR K F) (storedV rows k.nk b v) (dputD kvs k d) := by
  unfold storedV dputD
  rw [any_dr (kok_kin hk) h]
  split
  · rename_i hh
    clear hh
    induction h with
    | nil => exact .nil
    | @cons p q ps qs hq t ih =>
      rw [List.map_cons, List.map_cons]
      refine .cons ?_ ih
      have eb := eqb_nk (kok_kin hq.2.1) (kok_kin hk)
      by_cases e : p.1 = k.nk
      · rw [if_pos e, eb, decide_eq_true (hq.1.symm.trans e), if_pos rfl]
        exact ⟨hq.1, hq.2.1, hq.2.2.1, rv⟩
      · rw [if_neg e, eb, decide_eq_false (fun z => e (hq.1.trans z)), if_neg Bool.false_ne_true]
        exact hq
  · exact paired_append h (.cons ⟨rfl, hk, rk, rv⟩ .nil)
theorem dputD_len (kvs : List (D × D)) (k v : D) : (dputD kvs k v).length ≤ kvs.length + 1 := by
  unfold dputD
  split
  · rw [List.length_map]; omega
  · rw [List.length_append]; simp
theorem dputD_ne {kvs : List (D × D)} {k v : D} : dputD kvs k v ≠ [] := by
  unfold dputD
  split
  · rename_i h
    rcases kvs with _ | ⟨p, kvs⟩
    · simp at h
    · simp
  · simp
theorem dkO_ok {P : Program} {w : World} {K : PySem.W.Frag} {F H : Hp} {h : Heap} {a : Addr} {rows : List (NestedKey × Addr × V)} {kvs : List (D × D)} {xs : List (NestedKey × Addr × Value)} (z : rows.length ≤ sizeLine) (hd : (a == sysModules) = false) (pr : Paired R3 rows xs) (dr : Paired (DR K F) rows kvs)
    (dd : h.DictOfH (nestedKind P w) a xs) : ObjOk P w H h a (DkO a rows) := by
  obtain ⟨o, es, ep, h1, h2, h3, h4, _, h5⟩ := dd
  refine ⟨⟨z, hd, by rw [← keys_r3 pr]; exact h5, xs, o, es, ep, pr, h1, h2, h3, ?_⟩, ⟨o, h1⟩, fun g1 g2 ⟨y1, y2, y3, y4, y5, y6, y7, y8, y9, y10, y11, y12⟩ k => ⟨y1, y2, y3, y4, y5, y6, y7, y8, k _ y9, y10, y11, y12⟩⟩
  rw [h4]
  have key : ∀ {rows : List (NestedKey × Addr × V)} {xs : List (NestedKey × Addr × Value)} {kvs : List (D × D)}, Paired R3 rows xs → Paired (DR K F) rows kvs → ∀ x ∈ xs, hN x.1 = x.1.hash w := by
    intro rows xs kvs pr
    induction pr generalizing kvs with
    | nil => intro _ x hx; exact nomatch hx
    | @cons p q ps qs hq t ih =>
      intro e x hx
      cases e with
      | cons e1 e2 =>
        rcases List.mem_cons.mp hx with rfl | hx
        · rw [← hq.1, e1.1]
          exact hN_eq (kok_kin e1.2.1)
        · exact ih e2 x hx
  refine List.map_congr_left fun x hx => ?_
  show (⟨(nestedKind P w).hash x.1, .ref x.2.1, x.2.2⟩ : DictEntry) = ⟨hN x.1, .ref x.2.1, x.2.2⟩
  rw [key pr dr x hx]; rfl
theorem empty_flat {K : PySem.W.Frag} {ks : List (L2.Key × V)} {kvs : List (D × D)} (e : kvs.map (·.1) = ks.map (fun p => keyD p.1)) (h : ∀ q ∈ kvs, q.1.kok = true) : kvs = [] ∧ ks = [] := by
  rcases kvs with _ | ⟨kv, kvs⟩
  · rcases ks with _ | ⟨p, ks⟩
    · exact ⟨rfl, rfl⟩
    · simp at e
  · rcases ks with _ | ⟨p, ks⟩
    · simp at e
    · simp only [List.map_cons, List.cons.injEq] at e
      have := h kv List.mem_cons_self
      rw [e.1, keyD_kok] at this
      cases this
theorem put_flat {K : PySem.W.Frag} {F : Hp} {k : L2.Key} {v : V} {d : D} (rv : Rp K F v d) {ks : List (L2.Key × V)} {kvs : List (D × D)} (r : RpA K F (ks.map (·.2)) (kvs.map (·.2))) (e : kvs.map (·.1) = ks.map (fun p => keyD p.1)) :
    RpA K F ((putK ks k v).map (·.2)) ((dputD kvs (keyD k) d).map (·.2)) ∧ (dputD kvs (keyD k) d).map (·.1) = (putK ks k v).map (fun p => keyD p.1) := by
  have ea : ∀ {ks : List (L2.Key × V)} {kvs : List (D × D)}, kvs.map (·.1) = ks.map (fun p => keyD p.1) → (ks.any fun kv => decide (kv.1 = k)) = kvs.any fun z => D.eqb z.1 (keyD k) := by
    intro ks
    induction ks with
    | nil => intro kvs e; rcases kvs with _ | ⟨kv, kvs⟩ <;> first | rfl | simp at e
    | cons p ks ih =>
      intro kvs e
      rcases kvs with _ | ⟨kv, kvs⟩
      · simp at e
      · simp only [List.map_cons, List.cons.injEq] at e
        rw [List.any_cons, List.any_cons, ih e.2, e.1, eqb_key]
  have upd : ∀ {ks : List (L2.Key × V)} {kvs : List (D × D)}, RpA K F (ks.map (·.2)) (kvs.map (·.2)) → kvs.map (·.1) = ks.map (fun p => keyD p.1) →
      RpA K F ((ks.map fun kv => if kv.1 = k then (kv.1, v) else kv).map (·.2)) ((kvs.map fun z => if D.eqb z.1 (keyD k) = true then (z.1, d) else z).map (·.2)) ∧ (kvs.map fun z => if D.eqb z.1 (keyD k) = true then (z.1, d) else z).map (·.1) = (ks.map fun kv => if kv.1 = k then (kv.1, v) else kv).map (fun p => keyD p.1) := by
    intro ks
    induction ks with
    | nil => intro kvs r e; rcases kvs with _ | ⟨kv, kvs⟩ <;> first | exact ⟨.nil, rfl⟩ | simp at e
    | cons p ks ih =>
      intro kvs r e
      rcases kvs with _ | ⟨kv, kvs⟩
      · simp at e
      · simp only [List.map_cons, List.cons.injEq] at e
        rw [List.map_cons, List.map_cons] at r
        cases r with
        | cons r1 r2 =>
          obtain ⟨i1, i2⟩ := ih r2 e.2
          have eb := eqb_key p.1 k
          rw [← e.1] at eb
          simp only [List.map_cons]
          by_cases h : p.1 = k
          · rw [decide_eq_true h] at eb
            rw [if_pos h, if_pos eb]
            exact ⟨.cons rv i1, by rw [i2, e.1]⟩
          · rw [decide_eq_false h] at eb
            rw [if_neg h, if_neg (by rw [eb]; exact Bool.false_ne_true)]
            exact ⟨.cons r1 i1, by rw [i2, e.1]⟩
  unfold putK dputD
  rw [ea e]
  split
  · exact upd r e
  · rw [List.map_append, List.map_append, List.map_append, List.map_append, e]
    exact ⟨r.append (.cons rv .nil), rfl⟩
section
variable {X : Cx} {pins : List (Addr × Obj)} {σ : L2.St} {F H : Hp} {s : Shared}
/-- k: v comes to a dict of one's own -/
theorem own_put (hu : X.A.units + 65 < cLine) (I : Inv X pins σ H s) (sb : Sub F H) {p : Addr} {kvs : List (D × D)} {kd vd : D} {kv vv : V} {ku vu : Value} (o : OwnAt X.K F H p (.dic kvs)) (hF : F p = none) (rk : Rp X.K F kv kd) (ek : RelV kv ku) (rv : Rp X.K F vv vd) (ev : RelV vv vu) (kf : keyFor kvs kd) (hl : kvs.length < sizeLine)
    {Q : Unit → Shared → Prop} {E : Value → Shared → Prop} (h : ∀ u s', OwnAt X.K F (upd H p u) p (.dic (dputD kvs kd vd)) → Inv X pins σ (upd H p u) s' → Q () s') : wpAny (model X.prog X.w) X.A (setItem (.ref p) ku vu) Q E s := by
  -- tuples
  have tup : ∀ (rows : List (NestedKey × Addr × V)) (xs : List (NestedKey × Addr × Value)), kd.kok = true → (p == sysModules) = false → rows.length ≤ sizeLine → Mut (H p) → Paired R3 rows xs → Paired (DR X.K F) rows kvs → s.heap.DictOfH (nestedKind X.prog X.w) p xs → wpAny (model X.prog X.w) X.A (setItem (.ref p) ku vu) Q E s := fun rows xs hk hd hz mu pr dr dd => by
    obtain ⟨b, rfl⟩ := kok_ref hk rk
    cases (show ku = Value.ref b from ek)
    have hx : xs.length = kvs.length := by rw [← Paired.length pr, Paired.length dr]
    refine wpAny_setItem_heap (hsz := by omega) (show X.A.in1.units + 8 < cLine by rw [Around.in1_units]; omega) (key_is I sb hk rk) dd fun h' dd' hs => ?_
    have pr' := r3_put pr kd.nk b ev
    have dr' := dr_put dr hk rk rv
    have hz' : (storedV rows kd.nk b vv).length ≤ sizeLine := by
      rw [Paired.length dr']
      have := dputD_len kvs kd vd
      omega
    obtain ⟨e1, e2, e3, e4⟩ := dr_to dr'
    have he : ∃ q, h'.get? p = some q := let ⟨q, _, _, hq, _⟩ := dd'; ⟨q, hq⟩
    exact h (DkO p (storedV rows kd.nk b vv)) _ (.inr ⟨_, upd_same, dputD_ne, e1, e2, e3, e4⟩) (d_write I mu hs he (dkO_ok hz' hd pr' dr' dd'))
  rcases o with ⟨ks, hp, ra, e⟩ | ⟨rows, hp, k0, k1, k2, r1, r2⟩
  · rcases kf with ⟨h1, _⟩ | ⟨h1, h2⟩
    · obtain ⟨kk, rfl⟩ := flt_key h1
      have ev' : kv = kV kk := by
        rcases kk with i | x
        · cases rk; rfl
        · cases rk; rfl
      subst ev'
      have hks : ks.length < sizeLine := by
        have := congrArg List.length e
        simp only [List.length_map] at this
        omega
      refine d_setItem (by omega) I (DPut.k (k := kk) (v := vv) hp hks) ek ev fun s' I' => ?_
      obtain ⟨a1, a2⟩ := put_flat (k := kk) rv ra e
      exact h (.dK (putK ks kk vv)) s' (.inl ⟨_, upd_same, a1, a2⟩) I'
    · obtain ⟨rfl, rfl⟩ := empty_flat (K := X.K) e h2
      obtain ⟨_, hd, vs, rel, ob, es, ep, g1, g2, g3, _, g4, _⟩ := dk_rd I.hok (.inl hp)
      have ev : vs = [] := by cases rel; rfl
      subst ev
      have ee : es.toList = [] := by
        have := g4
        cases h : es.toList with
        | nil => rfl
        | cons z zs => rw [h] at this; cases this
      exact tup [] [] h1 hd (Nat.zero_le _) (by rw [hp]; exact True.intro) .nil .nil ⟨ob, es, ep, g1, g2, g3, by rw [ee]; rfl, fun _ z => (nomatch z), .nil⟩
  · rcases kf with ⟨h1, h2⟩ | ⟨h1, _⟩
    · exfalso
      rcases kvs with _ | ⟨kv, kvs⟩
      · exact k0 rfl
      · have a1 := h2 kv List.mem_cons_self
        rw [kok_flt (k2 kv List.mem_cons_self)] at a1
        cases a1
    · obtain ⟨hd, hz, xs, pr, dd⟩ := dkO_of I sb (.inl hp) k1 k2 r1
      exact tup rows xs h1 hd hz (by rw [hp]; exact True.intro) pr (dr_of k1 k2 r1 r2) dd
end
/-- d[k] = v, d a dict of one's own -/
def sPutD (i : Nat) (tk tv : DE) : DS := fun N ρ => match ρ[i]? with
  | some (.own (.dic kvs)) => tv ρ fun v => tk ρ fun k => keyFor kvs k ∧ kvs.length < sizeLine ∧ N.nx (ρ.set i (.own (.dic (dputD kvs k v))))
  | _ => False
section
variable {X : Cx} {e value ke o : Expr} {pos pos' : Pos} {tk tv : DE}
theorem pds_put {i : Nat} (hu : X.A.units + 65 < cLine) (ho : PE X o (tVar i)) (hk : PD X ke tk) (hv : PD X value tv) (hs : swapsWith value (some (.Subscript o ke pos')) pos.line X.env = pure false := by rfl) : PDS X (.Assign [.Subscript o ke pos'] value pos) (sPutD i tk tv) := by
  refine ⟨fun pins s σ H N I ⟨F0, H0, G, ρ, M, ⟨F, so⟩, ht, k⟩ => ?_⟩
  unfold sPutD at ht
  cases hi : ρ[i]? with
  | none => rw [hi] at ht; exact ht.elim
  | some sl =>
    rw [hi] at ht
    cases sl with
    | un => exact ht.elim
    | v d => exact ht.elim
    | tg u d => exact ht.elim
    | own d =>
      cases d <;> first | exact ht.elim | skip
      rename_i kvs
      obtain ⟨x, e1, p, e2, _, _⟩ := so.env.at_ i _ hi
      subst e2
      refine wpAny_Assign_Subscript (thn (hv.run pins s σ H (fun v H' => ∃ F' d, Sta X.K F0 H0 G F' σ H' ρ ∧ Rp X.K F' v d ∧ tk ρ fun k => keyFor kvs k ∧ kvs.length < sizeLine ∧ M.nx (ρ.set i (.own (.dic (dputD kvs k d))))) I (so.lf ht fun v H' F' d so' r q => ⟨F', d, so', r, q⟩)) fun vu s1 ⟨vv, H1, I1, ev, F1, vd, so1, rv, q1⟩ => ?_) hs
      refine thn (ho.run pins s1 σ H1 (fun x H' => x = .ref p ∧ H' = H1) I1 ⟨_, e1, rfl, rfl⟩) fun u s2 ⟨x, H2, I2, ex, e3, e4⟩ => ?_
      subst e3
      rw [e4] at I2
      cases (show u = Value.ref p from ex)
      refine thn (hk.run pins s2 σ H1 (fun v H' => ∃ F' d, Sta X.K F0 H0 G F' σ H' ρ ∧ Rp X.K F' v d ∧ Same F1 F' ∧ keyFor kvs d ∧ kvs.length < sizeLine ∧ M.nx (ρ.set i (.own (.dic (dputD kvs d vd))))) I2 ⟨ρ, F1, _, so1.ext.sub, so1.env, q1, fun v H' F' d x r q => ⟨F', d, so1.step x, r, x.mono, q⟩⟩) fun ku s3 ⟨kv, H3, I3, ek, F3, kd, so3, rk, m, kf, hl, q⟩ => ?_
      obtain ⟨x, a1, p', a2, hF, o3⟩ := so3.env.at_ i _ hi
      rw [e1] at a1; cases a1; cases a2
      exact own_put hu I3 so3.ext.sub o3 hF rk ek (rv.mono m) ev kf hl fun u s' o' I' => ⟨σ, _, I', k.nx _ _ _ ⟨F3, so3.putOwnG e1 hi o'⟩ q⟩
def dD0 : DE := fun _ Q => Q (.dic [])
theorem pdo_dict0 : PDo X (.Dict [] [] pos) dD0 := pe_dnewK.impD fun σ H Q ⟨ρ, F, Q0, s, en, ht, k⟩ => fun p hp =>
  k _ _ _ (.dic []) (Ext.newO s hp) (.inr ⟨p, rfl, hp, s.none hp, Or.inl ⟨[], upd_same, RpA.nil, rfl⟩⟩) ht
end
end DV

namespace DV
open PySem PySem.Spec PyProof.Rows L2

/-! ### dict(a list of pairs) -/
def tup2 (p : D × D) : D := .tup [p.1, p.2]
def mergeD (acc more : List (D × D)) : List (D × D) := more.foldl (fun a p => dputD a p.1 p.2) acc
def oneKind (kvs : List (D × D)) : Prop := (∀ q ∈ kvs, q.1.flt = true) ∨ ∀ q ∈ kvs, q.1.kok = true
def dictC : DF := fun ds Q => match ds with
  | [.lst ps] => ∃ kvs, ps = kvs.map tup2 ∧ oneKind kvs ∧ Q (.dic (mergeD [] kvs))
  | _ => False
def rDictC (K : PySem.W.Frag) (xs : List V) (H : Hp) (Q : VK) : Prop := ∃ F a kvs, Sub F H ∧ xs = [.ref a] ∧ Rp K F (.ref a) (.lst (kvs.map tup2)) ∧ oneKind kvs ∧ ∀ v H' F' , Ext F H F' H' → OwnV K H F' H' v (.dic (mergeD [] kvs)) → Q v H'
section
variable {X : Cx} {pins : List (Addr × Obj)} {σ : L2.St} {F H : Hp} {s : Shared}
theorem pair_of {K : PySem.W.Frag} {F : Hp} {v : V} {p : D × D} (r : Rp K F v (tup2 p)) : ∃ T x y, v = .ref T ∧ SqT K F T [x, y] ∧ Rp K F x p.1 ∧ Rp K F y p.2 := by
  unfold tup2 at r
  cases r with
  | tup h r =>
    cases r with
    | cons r1 r =>
      cases r with
      | cons r2 r =>
        cases r
        exact ⟨_, _, _, rfl, h, r1, r2⟩
theorem flat_pairs {K : PySem.W.Frag} (sb : Sub F H) : ∀ {vs : List V} {kvs : List (D × D)}, RpA K F vs (kvs.map tup2) → (∀ q ∈ kvs, q.1.flt = true) →
    ∃ (Ts : List Addr) (ks : List (L2.Key × V)), vs = Ts.map V.ref ∧ Paired (fun p kv => SqT K H p [kV kv.1, kv.2]) Ts ks ∧ RpA K F (ks.map (·.2)) (kvs.map (·.2)) ∧ kvs.map (·.1) = ks.map (fun p => keyD p.1)
  | _, [], r, _ => by
    cases r
    exact ⟨[], [], rfl, .nil, RpA.nil, rfl⟩
  | _, p :: kvs, r, h => by
    rw [List.map_cons] at r
    cases r with
    | cons r1 r2 =>
      obtain ⟨T, x, y, rfl, ht, ra, rb⟩ := pair_of r1
      obtain ⟨Ts, ks, rfl, pr, rv, e⟩ := flat_pairs sb r2 fun q hq => h q (List.mem_cons_of_mem _ hq)
      obtain ⟨kk, ek⟩ := flt_key (h p List.mem_cons_self)
      rw [ek] at ra
      have ev : x = kV kk := by
        rcases kk with i | x
        · cases ra; rfl
        · cases ra; rfl
      subst ev
      exact ⟨T :: Ts, (kk, y) :: ks, rfl, .cons (sb.seqT ht) pr, .cons rb rv, by rw [List.map_cons, List.map_cons, ek, e]⟩
theorem merge_flat {K : PySem.W.Frag} {F : Hp} : ∀ {more : List (D × D)} {mk : List (L2.Key × V)} {kvs : List (D × D)} {ks : List (L2.Key × V)}, RpA K F (mk.map (·.2)) (more.map (·.2)) → more.map (·.1) = mk.map (fun p => keyD p.1) → RpA K F (ks.map (·.2)) (kvs.map (·.2)) → kvs.map (·.1) = ks.map (fun p => keyD p.1) →
    RpA K F ((mergeK ks mk).map (·.2)) ((mergeD kvs more).map (·.2)) ∧ (mergeD kvs more).map (·.1) = (mergeK ks mk).map (fun p => keyD p.1)
  | [], [], kvs, ks, _, _, r, e => ⟨r, e⟩
  | [], _ :: _, _, _, _, e, _, _ => by simp at e
  | _ :: _, [], _, _, _, e, _, _ => by simp at e
  | p :: more, q :: mk, kvs, ks, r0, e0, r, e => by
    simp only [List.map_cons, List.cons.injEq] at e0
    rw [List.map_cons, List.map_cons] at r0
    cases r0 with
    | cons r1 r2 =>
      obtain ⟨a1, a2⟩ := put_flat (k := q.1) r1 r e
      have := merge_flat (kvs := dputD kvs (keyD q.1) p.2) (ks := putK ks q.1 q.2) r2 e0.2 a1 a2
      unfold mergeD mergeK at this ⊢
      rw [List.foldl_cons, List.foldl_cons, e0.1]
      exact this
theorem tup_pairs (I : Inv X pins σ H s) (sb : Sub F H) : ∀ {vs : List V} {us : List Value} {kvs : List (D × D)}, RpA X.K F vs (kvs.map tup2) → Vals vs us → (∀ q ∈ kvs, q.1.kok = true) →
    ∃ (Ts : List Addr) (rows : List (NestedKey × Addr × V)) (xs : List (NestedKey × Addr × Value)), us = Ts.map Value.ref ∧ Paired R3 rows xs ∧ Paired (DR X.K F) rows kvs ∧ Ts.length = xs.length ∧
      (∀ (j : Nat) x T, xs[j]? = some x → Ts[j]? = some T → s.heap.IsTuple T #[.ref x.2.1, x.2.2]) ∧ ∀ x ∈ xs, (nestedKind X.prog X.w).is s.heap x.1 x.2.1
  | _, _, [], r, rel, _ => by
    cases r
    cases rel
    exact ⟨[], [], [], rfl, .nil, .nil, rfl, (fun j x T e => by simp at e), fun _ h => nomatch h⟩
  | _, _, p :: kvs, r, rel, h => by
    rw [List.map_cons] at r
    cases r with
    | cons r1 r2 =>
      obtain ⟨T, x, y, rfl, ht, ra, rb⟩ := pair_of r1
      cases rel with
      | @cons _ u _ us e1 e2 =>
        cases (show u = Value.ref T from e1)
        obtain ⟨Ts, rows, xs, rfl, pr, dr, hl, hp, hk⟩ := tup_pairs I sb r2 e2 fun q hq => h q (List.mem_cons_of_mem _ hq)
        have kp := h p List.mem_cons_self
        obtain ⟨b, rfl⟩ := kok_ref kp ra
        obtain ⟨its, rv, tu, _⟩ := I.tuple (sb.seqT ht)
        obtain ⟨ku, vu, ei, ku', rvu⟩ := vals2 rv
        subst ei
        cases (show ku = Value.ref b from ku')
        refine ⟨T :: Ts, (p.1.nk, b, y) :: rows, (p.1.nk, b, vu) :: xs, rfl, .cons ⟨rfl, rfl, rvu⟩ pr, .cons ⟨rfl, kp, ra, rb⟩ dr, by simp [hl], fun j x T' a1 a2 => ?_, fun x hx => ?_⟩
        · cases j with
          | zero =>
            simp only [List.getElem?_cons_zero, Option.some.injEq] at a1 a2
            subst a1 a2
            exact tu
          | succ j => exact hp j x T' (by simpa using a1) (by simpa using a2)
        · rcases List.mem_cons.mp hx with rfl | hx
          · exact key_is I sb kp ra
          · exact hk x hx
theorem merge_rows {K : PySem.W.Frag} {F : Hp} : ∀ {mr : List (NestedKey × Addr × V)} {mx : List (NestedKey × Addr × Value)} {more : List (D × D)} {rows : List (NestedKey × Addr × V)} {xs : List (NestedKey × Addr × Value)} {kvs : List (D × D)}, Paired R3 mr mx → Paired (DR K F) mr more → Paired R3 rows xs → Paired (DR K F) rows kvs →
    ∃ rows', Paired R3 rows' (storedAllH xs mx) ∧ Paired (DR K F) rows' (mergeD kvs more)
  | _, _, _, rows, xs, kvs, .nil, q, r, d => by
    cases q
    exact ⟨rows, r, d⟩
  | _, _, _, rows, xs, kvs, .cons (a := a) (b := b) h t, q, r, d => by
    cases q with
    | @cons _ p _ more q1 q2 =>
      have h1 := r3_put r b.1 b.2.1 h.2.2
      have h2 := dr_put (b := b.2.1) d q1.2.1 (h.2.1 ▸ q1.2.2.1) q1.2.2.2
      have e : b.1 = p.1.nk := h.1.symm.trans q1.1
      rw [e] at h1
      obtain ⟨rows', g1, g2⟩ := merge_rows t q2 h1 h2
      refine ⟨rows', ?_, g2⟩
      show Paired R3 rows' (storedAllH (storedH xs b.1 b.2.1 b.2.2) _)
      rw [e]
      exact g1
theorem mergeD_len : ∀ (more kvs : List (D × D)), (mergeD kvs more).length ≤ kvs.length + more.length
  | [], kvs => by show kvs.length ≤ kvs.length + 0; omega
  | p :: r, kvs => by
    have h1 := mergeD_len r (dputD kvs p.1 p.2)
    have h2 := dputD_len kvs p.1 p.2
    show (mergeD (dputD kvs p.1 p.2) r).length ≤ _
    rw [List.length_cons]; omega
theorem mergeD_ne : ∀ (more : List (D × D)) {kvs : List (D × D)}, kvs ≠ [] → mergeD kvs more ≠ []
  | [], kvs, h => h
  | p :: r, kvs, h => mergeD_ne r dputD_ne
theorem call_dictC (hcalm : X.calm = true) (hu : X.A.units + 65 < cLine) : CallR X (.type "dict") (rDictC X.K) := by
  intro pins s σ H xs us Q I r ⟨F, a, kvs, sb, ex, rd, kd, q⟩
  subst ex
  cases rd with
  | @lst _ vs _ hF ra =>
    have hs : SqL X.K H a vs := .of (sb.lst hF)
    have flat : (∀ q ∈ kvs, q.1.flt = true) → wpAny (model X.prog X.w) X.A (call (.type "dict") us) (EP X pins σ Q) X.xe s := fun hf => by
      obtain ⟨Ts, ks, rfl, pr, rv, e⟩ := flat_pairs sb ra hf
      refine call_dictP hcalm pins s σ H _ us Q I r ⟨a, Ts, ks, rfl, hs, pr, fun p hp => ?_⟩
      obtain ⟨b1, b2⟩ := merge_flat (kvs := []) (ks := []) rv e RpA.nil rfl
      exact q _ _ F (Ext.newO sb hp) (.inr ⟨p, rfl, hp, sb.none hp, Or.inl ⟨_, upd_same, b1, b2⟩⟩)
    rcases kd with hf | hk
    · exact flat hf
    · by_cases h0 : kvs = []
      · subst h0
        exact flat fun _ z => nomatch z
      · obtain ⟨u, eu, rx⟩ := vals1 r
        subst eu
        cases (show u = Value.ref a from rx)
        obtain ⟨its, rv, pl, hz⟩ := I.list hs
        obtain ⟨Ts, rows, xs, rfl, pr, dr, hl, hp, hki⟩ := tup_pairs I sb ra rv hk
        have hlen : xs.length = kvs.length := by rw [← Paired.length pr, Paired.length dr]
        have hz' : xs.length ≤ sizeLine := by
          have := ra.length
          rw [List.length_map] at this
          omega
        let ps : List (Value × Value) := xs.map fun x => (Value.ref x.2.1, x.2.2)
        have hpl : ps.length = xs.length := by simp [ps]
        let Tf : Nat → Addr := fun j => Ts.getD j 0
        have hTf : ∀ {j : Nat}, j < xs.length → Ts[j]? = some (Tf j) := fun {j} hj => by
          have : j < Ts.length := by omega
          simp [Tf, List.getD, List.getElem?_eq_getElem this]
        have pi : PairItems s.heap (Ts.map Value.ref).toArray Tf ps := ⟨by simp [hl, ps], fun j k v e => by
          rw [List.getElem?_map] at e
          obtain ⟨x, ex, e⟩ := Option.map_eq_some_iff.mp e
          cases e
          have hj : j < xs.length := (List.getElem?_eq_some_iff.mp ex).1
          refine ⟨by simp [hTf hj], .inl (hp j x _ ex (hTf hj))⟩⟩
        obtain ⟨o, n, ho, hc, hd, hdat⟩ := pl
        refine call_dict_pairsH (knd := nestedKind X.prog X.w) (ps := xs) (PairArg.list a (Ts.map Value.ref).toArray Tf ps) (I.ok.hd hcalm) (show X.A.in1.in1.units + 8 < cLine by rw [Around.in1_units, Around.in1_units]; omega) ⟨⟨o, n, ho, hc, hd, hdat⟩, pi⟩ ⟨hpl.symm, fun i key v e => ?_⟩ (fun h' k x hx => ?_) (by omega) fun h' tk hd' k => ?_
        · have e' : (xs.map fun x => (Value.ref x.2.1, x.2.2))[i]? = some (key, v) := e
          rw [List.getElem?_map] at e'
          obtain ⟨x, ex, e'⟩ := Option.map_eq_some_iff.mp e'
          cases e'
          exact ⟨x.1, x.2.1, ex, rfl⟩
        · exact nestedKind_stays.stays (fun b o vs n e _ => k b o (Nat.ne_of_lt (Heap.lt_size e)) (fun z => nomatch z) e) (hki x hx)
        · have hm : (s.heap.objs.size == sysModules) = false := beq_eq_false_iff_ne.mpr (Nat.ne_of_gt I.big)
          obtain ⟨rows', g1, g2⟩ := merge_rows pr dr (rows := []) (xs := []) (kvs := []) .nil .nil
          obtain ⟨e1, e2, e3, e4⟩ := dr_to g2
          have hz2 : rows'.length ≤ sizeLine := by
            rw [Paired.length g2]
            have := mergeD_len kvs []
            simp only [List.length_nil] at this
            omega
          have hn := I.hok.fresh (Nat.le_refl s.heap.objs.size)
          have ne : mergeD [] kvs ≠ [] := by
            rcases kvs with _ | ⟨p, kvs⟩
            · exact absurd rfl h0
            · exact mergeD_ne kvs dputD_ne
          exact ⟨.ref s.heap.objs.size, _, I.laid (a := s.heap.objs.size) (o := DkO s.heap.objs.size rows') (t' := tk) (fun b o e => k b o (fun z => nomatch z) e) (Nat.le_refl _) (dkO_ok hz2 hm g1 g2 hd'), rfl, q _ _ F (Ext.newO sb hn) (.inr ⟨_, rfl, hn, sb.none hn, Or.inr ⟨rows', upd_same, ne, e1, e2, e3, e4⟩⟩)⟩
theorem cdo_dict {K : PySem.W.Frag} : CallDo K (rDictC K) dictC := fun F H xs ds Q0 Q s r q k => by
  rcases r with _ | ⟨r1, _ | ⟨_, _⟩⟩
  · exact q.elim
  · rename_i d
    cases d <;> first | exact q.elim | skip
    obtain ⟨kvs, rfl, kd, q⟩ := q
    cases r1 with
    | lst h ra => exact ⟨F, _, kvs, s, rfl, .lst h ra, kd, fun v H' F' x o => k v H' F' _ x o q⟩
  · rename_i d1 _ _ _ _
    exfalso
    unfold dictC at q
    split at q
    · rename_i h
      cases h
    · exact q
end
end DV

namespace DV
open PySem PySem.Spec PyProof.Rows L2

/-! ### d[k] -/
theorem tailD {prog : Program} {w : World} {A : Around} {E : Value → Shared → Prop} {s : Shared} {value slice : Expr} {o i : Value} {Q : Value → Shared → Prop} (hT : s.TypeIs o "dict") (hs : subscripted slice false o i = operate [o, i] (getItem o i)) (h : wpAny (model prog w) A (getItem o i) Q E s) :
    wpAny (model prog w) A (subscriptTail value slice o i) Q E s := by
  unfold subscriptTail
  refine wpAny_bind ?_
  rw [getitemInPython_of_ne hT.not_modules]
  refine wpAny_bind (wpAny_specialOf hT PySem.F.slot_dict_getitem.lookup ?_)
  have fin : wpAny (model prog w) A (subscripted slice false o i) (fun r s₃ => wpAny (model prog w) A (letTemporaryGo value o r >>= fun _ => pure r) Q E s₃) E s := by
    rw [hs]
    exact wpAny_operating (wpAny_mono h (fun r s₃ h₃ => wpAny_bind (wpAny_letTemporaryGo (wpAny_pure h₃))) fun _ _ x => x)
  first
    | exact wpAny_pure (wpAny_bind fin)
    | exact wpAny_bind (wpAny_pure (wpAny_bind fin))
    | exact wpAny_bind fin
def rIxK (K : PySem.W.Frag) : R2 := fun x y H Q => ∃ F k kvs d, Sub F H ∧ Rp K F y k ∧ Rp K F x (.dic kvs) ∧ keyFor kvs k ∧ dgetD kvs k = some d ∧ ∀ v, Rp K F v d → Q v H
def ixKD : D2 := fun x y Q => match x with
  | .dic kvs => keyFor kvs y ∧ match dgetD kvs y with
    | some d => Q d
    | none => False
  | _ => False
section
variable {X : Cx}
theorem ix_dict (hu : X.A.units + 65 < cLine) : IxR X (rIxK X.K) := by
  intro value slice pins s σ H x y v u Q I rx ry ⟨F, k, kvs, d, sb, rk, rd, kf, e, q⟩ hs
  rcases dict_in I sb rk ry rd kf with ⟨a, rfl, g, e'⟩ | ⟨a, z, d', rfl, g, e', r⟩ | ⟨a, b, xs, rfl, rfl, hd, hk, dd, l⟩
  · rw [e] at e'; cases e'
  · cases (show v = Value.ref a from rx)
    rw [e] at e'; cases e'
    exact tailD (dict_typeIs I g) hs (d_getItem (by omega) I g ry fun w' s' I' rw' => ⟨z, H, I', rw', q z r⟩)
  · cases (show v = Value.ref a from rx)
    cases (show u = Value.ref b from ry)
    rw [e] at l
    obtain ⟨p, z, l1, l2, l3⟩ := l
    exact tailD dd.typeIs hs (wpAny_getItem_heap (show X.A.in1.units + 8 < cLine by rw [Around.in1_units]; omega) hk dd l1 ⟨z, H, I.tok _, l2, q z l3⟩)
theorem od_ixK {K : PySem.W.Frag} : OpD K (rIxK K) ixKD := fun F H x y dx dy Q0 Q s rx ry q k => by
  cases dx <;> first | exact q.elim | skip
  rename_i kvs
  obtain ⟨kf, q⟩ := q
  cases e : dgetD kvs dy with
  | none => rw [e] at q; exact q.elim
  | some d =>
    rw [e] at q
    exact ⟨F, dy, kvs, d, s, ry, rx, kf, e, fun v r => k v H F d (.refl s) r q⟩
theorem pd_itemK {a b : Expr} {ta tb : DE} {pos : Pos} (hu : X.A.units + 65 < cLine) (ha : PD X a ta) (hb : PD X b tb) (hs : PlainIx b := by exact fun _ _ => rfl) : PD X (.Subscript a b pos) (dOp ixKD ta tb) := pd_ix (ix_dict hu) od_ixK ha hb hs
end

/-! ### new things made while a thing of one's own is lent -/
/-- a list or dict of things without lists, or a thing without lists -/
def D.nlc : D → Bool
  | .lst ds => D.noLsts ds
  | .dic ds => D.noLsts (ds.map (·.2))
  | d => d.noLst
def dBorO (i : Nat) (t : DE) : DE := fun ρ Q => t (frz i ρ) fun d => d.nlc = true ∧ Q d
section
variable {X : Cx} {e : Expr} {t : DE}
theorem nlc_own {K : PySem.W.Frag} {F F' H H' : Hp} (m : ButLst F F') {p : Addr} (k : ∀ u, H p = some u → H' p = some u) {d : D} (n : d.nlc = true) (o : OwnAt K F H p d) : OwnAt K F' H' p d := by
  refine o.but m k ?_
  cases d <;> first | exact True.intro | exact n
theorem nlc_nl {d : D} (n : d.nlc = true) (h : d.noLst = true) : d.noLst = true := h
theorem pdo_bor (i : Nat) (h : PDo X e t) : PDo X e (dBorO i t) := by
  refine ⟨fun pins s σ H Q I ⟨ρ, F, Q0, sb, en, ht, k⟩ => ?_⟩
  unfold dBorO DV.frz at ht
  have same : t ρ (fun d => d.nlc = true ∧ Q0 d) → lfEo X.K t σ H Q := fun z => ⟨ρ, F, _, sb, en, z, fun v H' F' d x r q => k v H' F' d x r q.2⟩
  cases hi : ρ[i]? with
  | none => rw [hi] at ht; exact h.run pins s σ H Q I (same ht)
  | some sl =>
    rw [hi] at ht
    cases sl with
    | un => exact h.run pins s σ H Q I (same ht)
    | v d => exact h.run pins s σ H Q I (same ht)
    | tg u d => exact h.run pins s σ H Q I (same ht)
    | own d0 =>
      obtain ⟨y, e1, p, e2, hF, o⟩ := en.at_ i _ hi
      subst e2
      obtain ⟨u0, u, hp, z, n, I1, x1, r1⟩ := own_freeze I (Ext.mk (F := fun _ => none) (H := fun _ => none) (fun _ _ e => (nomatch e)) (fun _ _ _ e => (nomatch e)) sb) rfl hF o
      refine thn (h.run pins s σ _ (fun v H' => ∃ F' d, Ext (upd F p u) (upd H p u) F' H' ∧ OwnV X.K (upd H p u) F' H' v d ∧ d.nlc = true ∧ Q0 d) I1 ⟨ρ.set i (.v d0), upd F p u, _, x1.sub, en.frz e1 hi hF r1, ht, fun v H' F' d x r q => ⟨F', d, x, r, q.1, q.2⟩⟩) fun w s1 ⟨v, H1, I2, rv, F1, d, x2, r2, q1, q⟩ => ?_
      obtain ⟨k1, k2, k3⟩ := unlend z hF hp x2
      refine ⟨v, _, own_thaw I2 k1 z n, rv, k _ _ _ _ k2 ?_ q⟩
      rcases r2 with ⟨nl, r⟩ | ⟨q', rfl, h0, hF', o'⟩
      · exact .inl ⟨nl, r.but k3 nl⟩
      · have nq : q' ≠ p := fun y => by rw [y, upd_same] at h0; cases h0
        refine .inr ⟨q', rfl, by rw [upd_ne nq] at h0; exact h0, by rw [delH_ne nq]; exact hF', nlc_own k3 (fun u y => by rw [upd_ne nq]; exact y) q1 o'⟩
end
section
variable {X : Cx} {tg iter elt : Expr} {ifs : List Expr} {scope : Scope} {pos : Pos} {it : DI} {g : TG} {g' : DG} {tt : DT} {te : DE} {own : List (Str × Nat)}
theorem pds_setLcO {i : Nat} {y : Str} {py spos : Pos} (hG : RelG X.K (own.map (·.2)) g g') (hc : X.calm = true) (hN : X.N.Nodup) (hy : X.N[i]? = some y) (hyl : X.env.scope.names.lookup y = some .local)
    (hsw : swapsWith (.ListComp elt [⟨tg, iter, ifs, 0⟩] scope pos) (some (.Name y py)) spos.line X.env = pure true) (hi : PDI X tg iter it) (ok : BlkOk X.N X.env.scope scope own)
    (hg : ∀ (s : Shared) (H : Hp) (C : Addr) (cl : List (Str × Addr)) (fp : List Addr), PG (X.blk s H scope (compEnvC scope cl C X.env) fp) tg g)
    (ht : ∀ (s : Shared) (H : Hp) (C : Addr) (cl : List (Str × Addr)) (fp : List Addr), PTs (X.blk s H scope (compEnvC scope cl C X.env) fp) ifs (lfT X.K tt))
    (he : ∀ (s : Shared) (H : Hp) (C : Addr) (cl : List (Str × Addr)) (fp : List Addr), PE (X.blk s H scope (compEnvC scope cl C X.env) fp) elt (lfE X.K te)) (hs : ∀ x, foldedSetIterable iter X.env x = pure x := by intro _; rfl) :
    PDS X (.Assign [.Name y py] (.ListComp elt [⟨tg, iter, ifs, 0⟩] scope pos) spos) (sSetO i (dLc it g' tt te (own.map (·.2)))) := (ps_setLc hc hN hy hyl hsw hi ok hg ht he hs).impD fun N σ H ⟨F0, H0, G, ρ, M, ⟨F, so⟩, ht, k⟩ =>
  lf_lco hG σ H _ ⟨ρ, F, _, so.ext.sub, so.env, ht, fun v H' F' d x o q => by
    rcases o with ⟨n, r⟩ | ⟨p, rfl, h0, hF, o⟩
    · rw [ownS_nl n] at q
      exact k.nx _ _ _ ⟨F', (so.step x).set i r⟩ q
    · rw [ownS_own o] at q
      exact k.nx _ _ _ ⟨F', so.setNew x i h0 hF o⟩ q⟩
end
end DV

namespace DV
open PySem PySem.Spec PyProof.Rows L2
/-! ### plain laws of the readings -/
theorem forD_inv {g : DG} {b : DS} {N : DN} (I : List Slot → Prop) : ∀ (ds : List D) (ρ : List Slot), I ρ →
    (∀ d ∈ ds, ∀ (ρ : List Slot) (M : DN), I ρ → (∀ ρ', I ρ' → M.nx ρ') → (∀ ρ', I ρ' → M.ct ρ') → M.rt = N.rt → M.bk = N.nx → g d ρ fun ρ' => b M ρ') → (∀ ρ, I ρ → N.nx ρ) → forD g b N ds ρ
  | [], ρ, h, _, e => e ρ h
  | d :: ds, ρ, h, s, e => s d List.mem_cons_self ρ _ h (fun ρ' h' => forD_inv I ds ρ' h' (fun d hd => s d (List.mem_cons_of_mem _ hd)) e) (fun ρ' h' => forD_inv I ds ρ' h' (fun d hd => s d (List.mem_cons_of_mem _ hd)) e) rfl rfl
theorem lcD_map {g : DG} {te : DE} {ρ : List Slot} (f : D → D) : ∀ (ds acc : List D) (Q : D → Prop), (∀ d ∈ ds, ∀ Q1 : D → Prop, Q1 (f d) → g d ρ fun ρ2 => te ρ2 Q1) → acc.length + ds.length ≤ sizeLine → Q (.lst (acc ++ ds.map f)) → lcD g dYes te ρ ds acc Q
  | [], acc, Q, _, _, q => by
    rw [List.map_nil, List.append_nil] at q
    exact q
  | d :: ds, acc, Q, h, hl, q => by
    have hl' : acc.length + (ds.length + 1) ≤ sizeLine := hl
    refine h d List.mem_cons_self (fun y => acc.length < sizeLine ∧ lcD g dYes te ρ ds (acc ++ [y]) Q) ⟨by omega, ?_⟩
    refine lcD_map f ds (acc ++ [f d]) Q (fun d hd => h d (List.mem_cons_of_mem _ hd)) (by rw [List.length_append]; show acc.length + 1 + ds.length ≤ sizeLine; omega) ?_
    rw [List.append_assoc]
    exact q
theorem lcD_rel {g : DG} {te : DE} {ρ : List Slot} (R : D → D → Prop) : ∀ (ds acc : List D) (Q : D → Prop), (∀ d ∈ ds, ∀ Q1 : D → Prop, (∀ y, R d y → Q1 y) → g d ρ fun ρ2 => te ρ2 Q1) → acc.length + ds.length ≤ sizeLine →
    (∀ ys : List D, ys.length = ds.length → (∀ (i : Nat) (h : i < ds.length) (h' : i < ys.length), R ds[i] ys[i]) → Q (.lst (acc ++ ys))) → lcD g dYes te ρ ds acc Q
  | [], acc, Q, _, _, q => by
    have := q [] rfl (fun i h => absurd h (by simp))
    rw [List.append_nil] at this
    exact this
  | d :: ds, acc, Q, h, hl, q => by
    have hl' : acc.length + (ds.length + 1) ≤ sizeLine := hl
    refine h d List.mem_cons_self (fun y => acc.length < sizeLine ∧ lcD g dYes te ρ ds (acc ++ [y]) Q) fun y hy => ⟨by omega, ?_⟩
    refine lcD_rel R ds (acc ++ [y]) Q (fun d hd => h d (List.mem_cons_of_mem _ hd)) (by rw [List.length_append]; show acc.length + 1 + ds.length ≤ sizeLine; omega) fun ys hys hR => ?_
    rw [List.append_assoc]
    refine q (y :: ys) (by simp [hys]) fun i h1 h2 => ?_
    cases i with
    | zero => exact hy
    | succ i => exact hR i (by simpa using h1) (by simpa using h2)
theorem pull_ok {n : Int} {Q : D → Prop} (h0 : 0 < n) (h1 : n < 18446744073709551616) (h : ∀ r : Int, 0 ≤ r → r < n → Q (.int r)) : pullD [.bag, .int n] Q := by
  exact ⟨n, rfl, h0, ⟨by omega, by
    have h2 : n.natAbs < 2 ^ 64 := by omega
    exact Nat.lt_of_lt_of_le (PySem.Flt.log2_lt_of (by decide) h2) (by decide)⟩, h⟩
theorem divOk {j : Int} (h0 : j ≠ 0) (h1 : j.natAbs < 1461501637330902918203684832716283019655932542976) : DivOk j := ⟨h0, by
  have h2 : j.natAbs < 2 ^ 160 := h1
  exact Nat.lt_of_lt_of_le (PySem.Flt.log2_lt_of (by decide) h2) (by decide)⟩
theorem mem_rng {lo : Int} {n : Nat} {d : D} (h : d ∈ rngD lo n) : ∃ k : Nat, k < n ∧ d = .int (lo + k) := by
  obtain ⟨k, hk, rfl⟩ := List.mem_map.mp h
  exact ⟨k, List.mem_range.mp hk, rfl⟩
theorem atI_of {α : Type} {xs : List α} {i : Int} (h0 : 0 ≤ i) (h1 : i < xs.length) : atI xs i = some (xs[i.toNat]'(by omega)) := by
  have e : atI xs ((i.toNat : Nat) : Int) = some (xs[i.toNat]'(by omega)) := atI_nat (List.getElem?_eq_getElem (by omega))
  rwa [Int.toNat_of_nonneg h0] at e
/-- an item at a drawn place -/
theorem ix_all {ds : List D} {i : Int} {Q : D → Prop} (h0 : 0 ≤ i) (h1 : i < ds.length) (h : ∀ d ∈ ds, Q d) : ixD (.lst ds) (.int i) Q := by
  show match atI ds i with
    | some d => Q d
    | none => False
  rw [atI_of h0 h1]
  exact h _ (List.getElem_mem _)
theorem ix_nat {ds : List D} {i : Nat} {Q : D → Prop} (h1 : i < ds.length) (h : Q ds[i]) : ixD (.lst ds) (.int (i : Int)) Q := by
  show match atI ds i with
    | some d => Q d
    | none => False
  rw [atI_of (by omega) (by omega)]
  exact h
theorem ix_natT {ds : List D} {i : Nat} {Q : D → Prop} (h1 : i < ds.length) (h : Q ds[i]) : ixD (.tup ds) (.int (i : Int)) Q := by
  show match atI ds i with
    | some d => Q d
    | none => False
  rw [atI_of (by omega) (by omega)]
  exact h
/-- data that _law_like may compare, n deep -/
def Lk : Nat → D → Prop
  | 0, _ => False
  | n + 1, d => match d with
    | .non => True
    | .bl _ => True
    | .int _ => True
    | .str x => PyData.strOk x = true
    | .tup ds => ds.length ≤ 1000000 ∧ ∀ d ∈ ds, Lk n d
    | .lst ds => ds.length ≤ 1000000 ∧ ∀ d ∈ ds, Lk n d
    | _ => False

/-! ### the operators at known data -/
section
variable {i j : Int} {a b : Bool} {x y : Str} {xs ys : List D} {d e f g h : D} {Q : D → Prop} {T : String}
theorem addD_ii : addD (.int i) (.int j) Q = Q (.int (i + j)) := rfl
theorem addD_tt : addD (.tup xs) (.tup ys) Q = (xs ≠ [] ∧ xs.length + ys.length ≤ sizeLine ∧ Q (.tup (xs ++ ys))) := rfl
theorem addD_ll : addD (.lst xs) (.lst ys) Q = (xs.length + ys.length ≤ sizeLine ∧ Q (.lst (xs ++ ys))) := rfl
theorem subD_ii : subD (.int i) (.int j) Q = Q (.int (i - j)) := rfl
theorem mulD_ii : mulD (.int i) (.int j) Q = (MulOk i j ∧ Q (.int (i * j))) := rfl
theorem fdivD_ii : fdivD (.int i) (.int j) Q = (DivOk j ∧ Q (.int (i.fdiv j))) := rfl
theorem modD_ii : modD (.int i) (.int j) Q = (j ≠ 0 ∧ Q (.int (i.fmod j))) := rfl
theorem powD_ii : powD (.int i) (.int j) Q = ((0 ≤ j ∧ j ≤ 1000000 ∧ i.natAbs < 2 ^ 64) ∧ Q (.int (i ^ j.toNat))) := rfl
theorem powD_10_9 : powD (.int 10) (.int 9) Q = Q (.int 1000000000) := by
  show ((0 ≤ (9 : Int) ∧ (9 : Int) ≤ 1000000 ∧ (10 : Int).natAbs < 2 ^ 64) ∧ Q (.int (10 ^ (9 : Int).toNat))) = _
  rw [show (10 : Int) ^ (9 : Int).toNat = 1000000000 by decide]
  simp
theorem powD_10_6 : powD (.int 10) (.int 6) Q = Q (.int 1000000) := by
  show ((0 ≤ (6 : Int) ∧ (6 : Int) ≤ 1000000 ∧ (10 : Int).natAbs < 2 ^ 64) ∧ Q (.int (10 ^ (6 : Int).toNat))) = _
  rw [show (10 : Int) ^ (6 : Int).toNat = 1000000 by decide]
  simp
theorem ltI_ii : ltI (.int i) (.int j) Q = Q (.bl (decide (i < j))) := rfl
theorem leI_ii : leI (.int i) (.int j) Q = Q (.bl (decide (i ≤ j))) := rfl
theorem gtI_ii : gtI (.int i) (.int j) Q = Q (.bl (decide (j < i))) := rfl
theorem geI_ii : geI (.int i) (.int j) Q = Q (.bl (decide (j ≤ i))) := rfl
theorem ltA_ii : ltA (.int i) (.int j) Q = Q (.bl (decide (i < j))) := propext ⟨fun z => z.elim id fun z => by have := z.2.2.2.2; dsimp only at this; rw [show (D.int i).toP = .int i from rfl, show (D.int j).toP = .int j from rfl, W.dataLt_int] at this; exact this, .inl⟩
theorem gtA_ii : gtA (.int i) (.int j) Q = Q (.bl (decide (j < i))) := propext ⟨fun z => z.elim id fun z => by have := z.2.2.2.2; dsimp only at this; rw [show (D.int i).toP = .int i from rfl, show (D.int j).toP = .int j from rfl, W.dataLt_int] at this; exact this, .inl⟩
theorem not_lt_le {i j : Int} : (!decide (j < i)) = decide (i ≤ j) := by
  by_cases h : j < i
  · rw [decide_eq_true h, decide_eq_false (by omega)]; rfl
  · rw [decide_eq_false h, decide_eq_true (by omega)]; rfl
theorem leA_ii : leA (.int i) (.int j) Q = Q (.bl (decide (i ≤ j))) := propext ⟨fun z => z.elim id fun z => by have := z.2.2.2.2; dsimp only at this; rw [show (D.int i).toP = .int i from rfl, show (D.int j).toP = .int j from rfl, W.dataLt_int, not_lt_le] at this; exact this, .inl⟩
theorem geA_ii : geA (.int i) (.int j) Q = Q (.bl (decide (j ≤ i))) := propext ⟨fun z => z.elim id fun z => by have := z.2.2.2.2; dsimp only at this; rw [show (D.int i).toP = .int i from rfl, show (D.int j).toP = .int j from rfl, W.dataLt_int, not_lt_le] at this; exact this, .inl⟩
theorem ltT_t2 {i j k l : Int} : W.dataLt (D.tup [.int i, .int j]).toP (D.tup [.int k, .int l]).toP = decide (i < k ∨ (i = k ∧ j < l)) := W.dataLt_ii i j k l
theorem ltA_t2 {i j k l : Int} : ltA (.tup [.int i, .int j]) (.tup [.int k, .int l]) Q = Q (.bl (decide (i < k ∨ (i = k ∧ j < l)))) := propext ⟨fun z => z.elim (fun z => z.elim) fun z => by have := z.2.2.2.2; dsimp only at this; rwa [ltT_t2] at this, fun z => .inr ⟨rfl, rfl, rfl, (fun q => nomatch q), by dsimp only; rwa [ltT_t2]⟩⟩
theorem gtA_t2 {i j k l : Int} : gtA (.tup [.int i, .int j]) (.tup [.int k, .int l]) Q = Q (.bl (decide (k < i ∨ (k = i ∧ l < j)))) := propext ⟨fun z => z.elim (fun z => z.elim) fun z => by have := z.2.2.2.2; dsimp only at this; rwa [ltT_t2] at this, fun z => .inr ⟨rfl, rfl, rfl, (fun q => nomatch q), by dsimp only; rwa [ltT_t2]⟩⟩
theorem leA_t2 {i j k l : Int} : leA (.tup [.int i, .int j]) (.tup [.int k, .int l]) Q = Q (.bl (!decide (k < i ∨ (k = i ∧ l < j)))) := propext ⟨fun z => z.elim (fun z => z.elim) fun z => by have := z.2.2.2.2; dsimp only at this; rwa [ltT_t2] at this, fun z => .inr ⟨rfl, rfl, rfl, (fun q => nomatch q), by dsimp only; rwa [ltT_t2]⟩⟩
theorem geA_t2 {i j k l : Int} : geA (.tup [.int i, .int j]) (.tup [.int k, .int l]) Q = Q (.bl (!decide (i < k ∨ (i = k ∧ j < l)))) := propext ⟨fun z => z.elim (fun z => z.elim) fun z => by have := z.2.2.2.2; dsimp only at this; rwa [ltT_t2] at this, fun z => .inr ⟨rfl, rfl, rfl, (fun q => nomatch q), by dsimp only; rwa [ltT_t2]⟩⟩
theorem max2A_ii : max2A [.int i, .int j] Q = Q (.int (max i j)) := by
  have e : max2D [.int i, .int j] Q = Q (.int (max i j)) := by
    show Q (.int (if j > i then j else i)) = _
    rw [show (if j > i then j else i) = max i j by omega]
  refine propext ⟨fun z => z.elim (fun z => e ▸ z) fun z => ?_, fun z => .inl (e ▸ z)⟩
  have := z.2.2.2
  rw [if_pos rfl, show (D.int i).toP = .int i from rfl, show (D.int j).toP = .int j from rfl, W.dataLt_int] at this
  by_cases h : i < j
  · rw [if_pos (decide_eq_true h)] at this; rwa [show max i j = j by omega]
  · rw [if_neg (by simpa using h)] at this; rwa [show max i j = i by omega]
theorem min2A_ii : min2A [.int i, .int j] Q = Q (.int (min i j)) := by
  have e : min2D [.int i, .int j] Q = Q (.int (min i j)) := by
    show Q (.int (if j < i then j else i)) = _
    rw [show (if j < i then j else i) = min i j by omega]
  refine propext ⟨fun z => z.elim (fun z => e ▸ z) fun z => ?_, fun z => .inl (e ▸ z)⟩
  have := z.2.2.2
  rw [if_neg Bool.false_ne_true, show (D.int i).toP = .int i from rfl, show (D.int j).toP = .int j from rfl, W.dataLt_int] at this
  by_cases h : j < i
  · rw [if_pos (decide_eq_true h)] at this; rwa [show min i j = j by omega]
  · rw [if_neg (by simpa using h)] at this; rwa [show min i j = i by omega]
theorem alike2 {i j k l : Int} : W.AlikeAll [(D.tup [.int i, .int j]).toP, (D.tup [.int k, .int l]).toP] := by
  refine ⟨fun x hx y hy => ?_, fun x hx => ?_⟩
  · simp only [List.mem_cons, List.not_mem_nil, or_false] at hx hy
    rcases hx with rfl | rfl <;> rcases hy with rfl | rfl <;> rfl
  · simp only [List.mem_cons, List.not_mem_nil, or_false] at hx
    rcases hx with rfl | rfl <;> exact fun z => nomatch z
theorem max2A_t2 {i j k l : Int} : max2A [.tup [.int i, .int j], .tup [.int k, .int l]] Q = Q (if i < k ∨ (i = k ∧ j < l) then .tup [.int k, .int l] else .tup [.int i, .int j]) := by
  have e : (if W.dataLt (D.tup [.int i, .int j]).toP (D.tup [.int k, .int l]).toP = true then D.tup [.int k, .int l] else .tup [.int i, .int j]) = if i < k ∨ (i = k ∧ j < l) then .tup [.int k, .int l] else .tup [.int i, .int j] := by rw [ltT_t2]; simp only [decide_eq_true_eq]
  exact propext ⟨fun z => z.elim (fun z => z.elim) fun z => e ▸ z.2.2.2, fun z => .inr ⟨rfl, rfl, alike2, e ▸ z⟩⟩
theorem min2A_t2 {i j k l : Int} : min2A [.tup [.int i, .int j], .tup [.int k, .int l]] Q = Q (if k < i ∨ (k = i ∧ l < j) then .tup [.int k, .int l] else .tup [.int i, .int j]) := by
  have e : (if W.dataLt (D.tup [.int k, .int l]).toP (D.tup [.int i, .int j]).toP = true then D.tup [.int k, .int l] else .tup [.int i, .int j]) = if k < i ∨ (k = i ∧ l < j) then .tup [.int k, .int l] else .tup [.int i, .int j] := by rw [ltT_t2]; simp only [decide_eq_true_eq]
  exact propext ⟨fun z => z.elim (fun z => z.elim) fun z => e ▸ z.2.2.2, fun z => .inr ⟨rfl, rfl, alike2, e ▸ z⟩⟩
theorem revD_l : revD (.lst xs) Q = Q (.lst xs.reverse) := rfl
theorem negD_i : negD (.int i) Q = Q (.int (-i)) := rfl
theorem notD_b : notD (.bl a) Q = Q (.bl (!a)) := rfl
theorem isBD_bb : isBD (.bl a) (.bl b) Q = Q (.bl (decide (a = b))) := rfl
theorem isNon_n : isNonD .non .non Q = Q (.bl true) := rfl
theorem isNon_t : isNonD (.tup xs) .non Q = Q (.bl false) := rfl
theorem isNon_l : isNonD (.lst xs) .non Q = Q (.bl false) := rfl
theorem notNon_n : notNonD .non .non Q = Q (.bl false) := rfl
theorem notNon_t : notNonD (.tup xs) .non Q = Q (.bl true) := rfl
theorem absD_i : absD [.int i] Q = Q (.int (if i < 0 then -i else i)) := rfl
theorem intC_i : intC [.int i] Q = Q (.int i) := rfl
theorem intC_b : intC [.bl a] Q = Q (.int (if a = true then 1 else 0)) := rfl
theorem lenD_l : lenD [.lst xs] Q = Q (.int xs.length) := rfl
theorem lenD_t : lenD [.tup xs] Q = Q (.int xs.length) := rfl
theorem max2D_ii : max2D [.int i, .int j] Q = Q (.int (if j > i then j else i)) := rfl
theorem min2D_ii : min2D [.int i, .int j] Q = Q (.int (if j < i then j else i)) := rfl
theorem listD_l : listD [.lst xs] Q = Q (.lst xs) := rfl
theorem listD_t : listD [.tup xs] Q = Q (.lst xs) := rfl
theorem tupleD_l : tupleD [.lst xs] Q = Q (.tup xs) := rfl
theorem tupleD_t : tupleD [.tup xs] Q = Q (.tup xs) := rfl
theorem allD_l : allD [.lst xs] Q = (xs.all isB = true ∧ Q (.bl (xs.all isT))) := rfl
theorem anyD_l : anyD [.lst xs] Q = (xs.all isB = true ∧ Q (.bl (xs.any isT))) := rfl
theorem ixT0 : ixD (.tup (d :: xs)) (.int 0) Q = Q d := by
  show (match atI (d :: xs) ((0 : Nat) : Int) with
    | some d => Q d
    | none => False) = Q d
  rw [atI_nat (j := 0) (v := d) rfl]
theorem ixT1 : ixD (.tup (d :: e :: xs)) (.int 1) Q = Q e := by
  show (match atI (d :: e :: xs) ((1 : Nat) : Int) with
    | some d => Q d
    | none => False) = Q e
  rw [atI_nat (j := 1) (v := e) rfl]
theorem ixT2 : ixD (.tup (d :: e :: f :: xs)) (.int 2) Q = Q f := by
  show (match atI (d :: e :: f :: xs) ((2 : Nat) : Int) with
    | some d => Q d
    | none => False) = Q f
  rw [atI_nat (j := 2) (v := f) rfl]
theorem ixT3 : ixD (.tup (d :: e :: f :: g :: xs)) (.int 3) Q = Q g := by
  show (match atI (d :: e :: f :: g :: xs) ((3 : Nat) : Int) with
    | some d => Q d
    | none => False) = Q g
  rw [atI_nat (j := 3) (v := g) rfl]
theorem ixL0 : ixD (.lst (d :: xs)) (.int 0) Q = Q d := ixT0
theorem ixL1 : ixD (.lst (d :: e :: xs)) (.int 1) Q = Q e := ixT1
theorem ixL2 : ixD (.lst (d :: e :: f :: xs)) (.int 2) Q = Q f := ixT2
theorem ixL3 : ixD (.lst (d :: e :: f :: g :: xs)) (.int 3) Q = Q g := ixT3
theorem lay_i : (D.int i).lay = true := rfl
theorem lay_b : (D.bl a).lay = true := rfl
theorem lay_n : D.non.lay = true := rfl
theorem lay_t0 : (D.tup []).lay = true := rfl
theorem lay_l0 : (D.lst []).lay = true := rfl
theorem lay_t2 {i j : Int} : (D.tup [.int i, .int j]).lay = true := rfl
theorem lay_t4 {i j k l : Int} : (D.tup [.int i, .int j, .int k, .int l]).lay = true := rfl
theorem eqb_ii : D.eqb (.int i) (.int j) = (i == j) := by simp only [D.eqb]
theorem eqb_bb : D.eqb (.bl a) (.bl b) = (a == b) := by simp only [D.eqb]
theorem eqb_ss : D.eqb (.str x) (.str y) = (x == y) := by simp only [D.eqb]
theorem eqb_nn : D.eqb .non .non = true := by simp only [D.eqb]
theorem eqb_tt : D.eqb (.tup xs) (.tup ys) = D.eqbs xs ys := by simp only [D.eqb]
theorem eqb_ll : D.eqb (.lst xs) (.lst ys) = D.eqbs xs ys := by simp only [D.eqb]
theorem eqbs_nn : D.eqbs [] [] = true := by simp only [D.eqbs]
theorem eqbs_cc : D.eqbs (d :: xs) (e :: ys) = (D.eqb d e && D.eqbs xs ys) := by simp only [D.eqbs]
theorem eqbs_nc : D.eqbs [] (e :: ys) = false := by simp only [D.eqbs]
theorem eqbs_cn : D.eqbs (d :: xs) [] = false := by simp only [D.eqbs]
theorem tyOk_n : D.non.tyOk = true := rfl
theorem tyOk_b : (D.bl a).tyOk = true := rfl
theorem tyOk_i : (D.int i).tyOk = true := rfl
theorem tyOk_s : (D.str x).tyOk = true := rfl
theorem tyOk_t : (D.tup xs).tyOk = true := rfl
theorem tyOk_l : (D.lst xs).tyOk = true := rfl
theorem isi_n : isiD T .non = decide (T = "NoneType") := rfl
theorem isi_b : isiD T (.bl a) = (decide (T = "bool") || decide (T = "int")) := rfl
theorem isi_i : isiD T (.int i) = decide (T = "int") := rfl
theorem isi_s : isiD T (.str x) = decide (T = "str") := rfl
theorem isi_t : isiD T (.tup xs) = decide (T = "tuple") := rfl
theorem isi_l : isiD T (.lst xs) = decide (T = "list") := rfl
end
theorem sl0 : (0 ≤ sizeLine) = True := eq_true (by decide)
theorem sl1 : (1 ≤ sizeLine) = True := eq_true (by decide)
theorem sl2 : (2 ≤ sizeLine) = True := eq_true (by decide)
theorem sl3 : (3 ≤ sizeLine) = True := eq_true (by decide)
theorem sl4 : (4 ≤ sizeLine) = True := eq_true (by decide)
theorem sl5 : (5 ≤ sizeLine) = True := eq_true (by decide)
theorem sl6 : (6 ≤ sizeLine) = True := eq_true (by decide)
theorem sl7 : (7 ≤ sizeLine) = True := eq_true (by decide)
theorem sl8 : (8 ≤ sizeLine) = True := eq_true (by decide)
theorem sl9 : (9 ≤ sizeLine) = True := eq_true (by decide)
theorem sl10 : (10 ≤ sizeLine) = True := eq_true (by decide)
theorem sl11 : (11 ≤ sizeLine) = True := eq_true (by decide)
theorem sl12 : (12 ≤ sizeLine) = True := eq_true (by decide)
theorem slt0 : (0 < sizeLine) = True := eq_true (by decide)
theorem slt1 : (1 < sizeLine) = True := eq_true (by decide)
theorem slt2 : (2 < sizeLine) = True := eq_true (by decide)
theorem slt3 : (3 < sizeLine) = True := eq_true (by decide)
theorem slt4 : (4 < sizeLine) = True := eq_true (by decide)
theorem slt5 : (5 < sizeLine) = True := eq_true (by decide)
theorem slt6 : (6 < sizeLine) = True := eq_true (by decide)
theorem slt7 : (7 < sizeLine) = True := eq_true (by decide)
theorem slt8 : (8 < sizeLine) = True := eq_true (by decide)
theorem slt9 : (9 < sizeLine) = True := eq_true (by decide)
theorem slt10 : (10 < sizeLine) = True := eq_true (by decide)
theorem slt11 : (11 < sizeLine) = True := eq_true (by decide)
theorem slt12 : (12 < sizeLine) = True := eq_true (by decide)
theorem mulOk {i j : Int} (h : (-18446744073709551616 < i ∧ i < 18446744073709551616) ∨ (-18446744073709551616 < j ∧ j < 18446744073709551616)) : MulOk i j := h.imp (fun h => ⟨by omega, by omega⟩) fun h => ⟨by omega, by omega⟩
theorem mulOk_l {i j : Int} (h1 : -18446744073709551616 < i) (h2 : i < 18446744073709551616) : MulOk i j := .inl ⟨by omega, by omega⟩
theorem mulOk_r {i j : Int} (h1 : -18446744073709551616 < j) (h2 : j < 18446744073709551616) : MulOk i j := .inr ⟨by omega, by omega⟩

/-! ### equations that unfold from the outside -/
def chB (z : D) (p q : Prop) : Prop := match z with
  | .bl k => if k = true then p else q
  | _ => False
def tsB (x : D) (Q : Bool → Prop) : Prop := match x with
  | .bl b => Q b
  | _ => False
def ownL (s : Option Slot) (P : List D → Prop) : Prop := match s with
  | some (.own (.lst ds)) => P ds
  | _ => False
def two (ds : List D) (P : D → D → Prop) : Prop := match ds with
  | [d, e] => P d e
  | _ => False
def three (ds : List D) (P : D → D → D → Prop) : Prop := match ds with
  | [d, e, f] => P d e f
  | _ => False
def asI (d : D) (P : Int → Prop) : Prop := match d with
  | .int i => P i
  | _ => False
def asS (d : D) (P : List D → Prop) : Prop := match d with
  | .lst ds => P ds
  | .tup ds => P ds
  | _ => False
def one (ds : List D) (P : D → Prop) : Prop := match ds with
  | [d] => P d
  | _ => False
def k_sAppend1 (i : Nat) (N : DN) (ρ : List Slot) (ds : List D) (d : D) : Prop := ds.length < sizeLine ∧ N.nx (ρ.set i (.own (.lst (ds ++ [d]))))
theorem k_sAppend1_q {i : Nat} {N : DN} {ρ : List Slot} {ds : List D} {d : D} : k_sAppend1 i N ρ ds d = (ds.length < sizeLine ∧ N.nx (ρ.set i (.own (.lst (ds ++ [d]))))) := rfl
def k_sAppend (i : Nat) (t : DE) (N : DN) (ρ : List Slot) (ds : List D) : Prop := t ρ (k_sAppend1 i N ρ ds)
theorem k_sAppend_q {i : Nat} {t : DE} {N : DN} {ρ : List Slot} {ds : List D} : k_sAppend i t N ρ ds = (t ρ (k_sAppend1 i N ρ ds)) := rfl
def ownD (s : Option Slot) (P : D → Prop) : Prop := match s with
  | some (.own d) => P d
  | _ => False
theorem ownD_o {d : D} {P : D → Prop} : ownD (some (.own d)) P = P d := rfl
def k_sRetOwn (N : DN) (d : D) : Prop := N.ro d
theorem k_sRetOwn_q {N : DN} {d : D} : k_sRetOwn N d = N.ro d := rfl
def k_sPar2 (i j : Nat) (N : DN) (ρ : List Slot) (d e : D) : Prop := N.nx ((ρ.set i (.v d)).set j (.v e))
theorem k_sPar2_q {i j : Nat} {N : DN} {ρ : List Slot} {d e : D} : k_sPar2 i j N ρ d e = (N.nx ((ρ.set i (.v d)).set j (.v e))) := rfl
def k_sPar (i j : Nat) (N : DN) (ρ : List Slot) (ds : List D) : Prop := two ds (k_sPar2 i j N ρ)
theorem k_sPar_q {i j : Nat} {N : DN} {ρ : List Slot} {ds : List D} : k_sPar i j N ρ ds = (two ds (k_sPar2 i j N ρ)) := rfl
def k_sPar33 (i j l : Nat) (N : DN) (ρ : List Slot) (d e f : D) : Prop := N.nx (((ρ.set i (.v d)).set j (.v e)).set l (.v f))
theorem k_sPar33_q {i j l : Nat} {N : DN} {ρ : List Slot} {d e f : D} : k_sPar33 i j l N ρ d e f = (N.nx (((ρ.set i (.v d)).set j (.v e)).set l (.v f))) := rfl
def k_sPar3 (i j l : Nat) (N : DN) (ρ : List Slot) (ds : List D) : Prop := three ds (k_sPar33 i j l N ρ)
theorem k_sPar3_q {i j l : Nat} {N : DN} {ρ : List Slot} {ds : List D} : k_sPar3 i j l N ρ ds = (three ds (k_sPar33 i j l N ρ)) := rfl
def k_some (Q : Option Int → Prop) (i : Int) : Prop := Q (some i)
theorem k_some_q {Q : Option Int → Prop} {i : Int} : k_some Q i = (Q (some i)) := rfl
def k_asI (P : Int → Prop) (d : D) : Prop := asI d P
theorem k_asI_q {P : Int → Prop} {d : D} : k_asI P d = (asI d P) := rfl
def k_asS (Q : List D → Prop) (d : D) : Prop := asS d Q
theorem k_asS_q {Q : List D → Prop} {d : D} : k_asS Q d = (asS d Q) := rfl
def k_rng1 (Q : List D → Prop) (j : Int) : Prop := (-(2 ^ 62) ≤ j ∧ j < 2 ^ 62) ∧ Q (rngD 0 j.toNat)
theorem k_rng1_q {Q : List D → Prop} {j : Int} : k_rng1 Q j = ((-(2 ^ 62) ≤ j ∧ j < 2 ^ 62) ∧ Q (rngD 0 j.toNat)) := rfl
def k_one (P : D → Prop) (ds : List D) : Prop := one ds P
theorem k_one_q {P : D → Prop} {ds : List D} : k_one P ds = (one ds P) := rfl
def k_rng22 (Q : List D → Prop) (i : Int) (j : Int) : Prop := (-(2 ^ 62) ≤ i ∧ i < 2 ^ 62 ∧ -(2 ^ 62) ≤ j ∧ j < 2 ^ 62) ∧ Q (rngD i (j - i).toNat)
theorem k_rng22_q {Q : List D → Prop} {i : Int} {j : Int} : k_rng22 Q i j = ((-(2 ^ 62) ≤ i ∧ i < 2 ^ 62 ∧ -(2 ^ 62) ≤ j ∧ j < 2 ^ 62) ∧ Q (rngD i (j - i).toNat)) := rfl
def k_rng21 (Q : List D → Prop) (e : D) (i : Int) : Prop := asI e (k_rng22 Q i)
theorem k_rng21_q {Q : List D → Prop} {e : D} {i : Int} : k_rng21 Q e i = (asI e (k_rng22 Q i)) := rfl
def k_rng2 (Q : List D → Prop) (d e : D) : Prop := asI d (k_rng21 Q e)
theorem k_rng2_q {Q : List D → Prop} {d e : D} : k_rng2 Q d e = (asI d (k_rng21 Q e)) := rfl
def k_two (P : D → D → Prop) (ds : List D) : Prop := two ds P
theorem k_two_q {P : D → D → Prop} {ds : List D} : k_two P ds = (two ds P) := rfl
def k_non (Q : D → Prop) (ρ : List Slot) : Prop := Q .non
theorem k_non_q {Q : D → Prop} {ρ : List Slot} : k_non Q ρ = (Q .non) := rfl
def k_no  (ρ : List Slot) : Prop := False
theorem k_no_q {ρ : List Slot} : k_no ρ = (False) := rfl
def k_sSet (i : Nat) (N : DN) (ρ : List Slot) (d : D) : Prop := N.nx (ρ.set i (.v d))
theorem k_sSet_q {i : Nat} {N : DN} {ρ : List Slot} {d : D} : k_sSet i N ρ d = (N.nx (ρ.set i (.v d))) := rfl
def k_sAsg (g : DG) (N : DN) (ρ : List Slot) (d : D) : Prop := g d ρ N.nx
theorem k_sAsg_q {g : DG} {N : DN} {ρ : List Slot} {d : D} : k_sAsg g N ρ d = (g d ρ N.nx) := rfl
def k_sAsg2 (i j : Nat) (N : DN) (ρ : List Slot) (d : D) : Prop := N.nx ((ρ.set i (.v d)).set j (.v d))
theorem k_sAsg2_q {i j : Nat} {N : DN} {ρ : List Slot} {d : D} : k_sAsg2 i j N ρ d = (N.nx ((ρ.set i (.v d)).set j (.v d))) := rfl
def k_sIf (t u : DS) (N : DN) (ρ : List Slot) (b : Bool) : Prop := if b = true then t N ρ else u N ρ
theorem k_sIf_q {t u : DS} {N : DN} {ρ : List Slot} {b : Bool} : k_sIf t u N ρ b = (if b = true then t N ρ else u N ρ) := rfl
def k_sDrop (N : DN) (ρ : List Slot) (d : D) : Prop := N.nx ρ
theorem k_sDrop_q {N : DN} {ρ : List Slot} {d : D} : k_sDrop N ρ d = (N.nx ρ) := rfl
def k_sOwn (i : Nat) (N : DN) (ρ : List Slot) (ds : List D) : Prop := ds.length ≤ sizeLine ∧ N.nx (ρ.set i (.own (.lst ds)))
theorem k_sOwn_q {i : Nat} {N : DN} {ρ : List Slot} {ds : List D} : k_sOwn i N ρ ds = (ds.length ≤ sizeLine ∧ N.nx (ρ.set i (.own (.lst ds)))) := rfl
def k_sFor (g : DG) (b : DS) (N : DN) (ρ : List Slot) (ds : List D) : Prop := forD g b N ds ρ
theorem k_sFor_q {g : DG} {b : DS} {N : DN} {ρ : List Slot} {ds : List D} : k_sFor g b N ρ ds = (forD g b N ds ρ) := rfl
def k_gs (gs : List D → List Slot → (List Slot → Prop) → Prop) (r : List D) (Q : List Slot → Prop) (ρ' : List Slot) : Prop := gs r ρ' Q
theorem k_gs_q {gs : List D → List Slot → (List Slot → Prop) → Prop} {r : List D} {Q : List Slot → Prop} {ρ' : List Slot} : k_gs gs r Q ρ' = (gs r ρ' Q) := rfl
def k_dOp2 (g : D2) (x : D) (Q : D → Prop) (y : D) : Prop := g x y Q
theorem k_dOp2_q {g : D2} {x : D} {Q : D → Prop} {y : D} : k_dOp2 g x Q y = (g x y Q) := rfl
def k_dOp (g : D2) (tb : DE) (ρ : List Slot) (Q : D → Prop) (x : D) : Prop := tb ρ (k_dOp2 g x Q)
theorem k_dOp_q {g : D2} {tb : DE} {ρ : List Slot} {Q : D → Prop} {x : D} : k_dOp g tb ρ Q x = (tb ρ (k_dOp2 g x Q)) := rfl
def k_dCh4 (g' : D2) (y : D) (Q : D → Prop) (w : D) : Prop := g' y w Q
theorem k_dCh4_q {g' : D2} {y : D} {Q : D → Prop} {w : D} : k_dCh4 g' y Q w = (g' y w Q) := rfl
def k_dCh3 (g' : D2) (tc : DE) (ρ : List Slot) (y : D) (Q : D → Prop) (z : D) : Prop := chB z (tc ρ (k_dCh4 g' y Q)) (Q (.bl false))
theorem k_dCh3_q {g' : D2} {tc : DE} {ρ : List Slot} {y : D} {Q : D → Prop} {z : D} : k_dCh3 g' tc ρ y Q z = (chB z (tc ρ (k_dCh4 g' y Q)) (Q (.bl false))) := rfl
def k_dCh2 (g g' : D2) (tc : DE) (ρ : List Slot) (x : D) (Q : D → Prop) (y : D) : Prop := g x y (k_dCh3 g' tc ρ y Q)
theorem k_dCh2_q {g g' : D2} {tc : DE} {ρ : List Slot} {x : D} {Q : D → Prop} {y : D} : k_dCh2 g g' tc ρ x Q y = (g x y (k_dCh3 g' tc ρ y Q)) := rfl
def k_dCh1 (g g' : D2) (tb tc : DE) (ρ : List Slot) (Q : D → Prop) (x : D) : Prop := tb ρ (k_dCh2 g g' tc ρ x Q)
theorem k_dCh1_q {g g' : D2} {tb tc : DE} {ρ : List Slot} {Q : D → Prop} {x : D} : k_dCh1 g g' tb tc ρ Q x = (tb ρ (k_dCh2 g g' tc ρ x Q)) := rfl
def k_dUn (g : D → (D → Prop) → Prop) (Q : D → Prop) (x : D) : Prop := g x Q
theorem k_dUn_q {g : D → (D → Prop) → Prop} {Q : D → Prop} {x : D} : k_dUn g Q x = (g x Q) := rfl
def k_dTest (Q : Bool → Prop) (x : D) : Prop := tsB x Q
theorem k_dTest_q {Q : Bool → Prop} {x : D} : k_dTest Q x = (tsB x Q) := rfl
def k_dAnd (u : DT) (ρ : List Slot) (Q : Bool → Prop) (c : Bool) : Prop := if c = true then u ρ Q else Q false
theorem k_dAnd_q {u : DT} {ρ : List Slot} {Q : Bool → Prop} {c : Bool} : k_dAnd u ρ Q c = (if c = true then u ρ Q else Q false) := rfl
def k_dOr (u : DT) (ρ : List Slot) (Q : Bool → Prop) (c : Bool) : Prop := if c = true then Q true else u ρ Q
theorem k_dOr_q {u : DT} {ρ : List Slot} {Q : Bool → Prop} {c : Bool} : k_dOr u ρ Q c = (if c = true then Q true else u ρ Q) := rfl
def k_dNot (Q : Bool → Prop) (c : Bool) : Prop := Q (!c)
theorem k_dNot_q {Q : Bool → Prop} {c : Bool} : k_dNot Q c = (Q (!c)) := rfl
def k_dAndV (tb : DE) (ρ : List Slot) (Q : D → Prop) (x : D) : Prop := chB x (tb ρ Q) (Q (.bl false))
theorem k_dAndV_q {tb : DE} {ρ : List Slot} {Q : D → Prop} {x : D} : k_dAndV tb ρ Q x = (chB x (tb ρ Q) (Q (.bl false))) := rfl
def k_dOrV (tb : DE) (ρ : List Slot) (Q : D → Prop) (x : D) : Prop := chB x (Q (.bl true)) (tb ρ Q)
theorem k_dOrV_q {tb : DE} {ρ : List Slot} {Q : D → Prop} {x : D} : k_dOrV tb ρ Q x = (chB x (Q (.bl true)) (tb ρ Q)) := rfl
def k_dIf (ta tb : DE) (ρ : List Slot) (Q : D → Prop) (k : Bool) : Prop := if k = true then ta ρ Q else tb ρ Q
theorem k_dIf_q {ta tb : DE} {ρ : List Slot} {Q : D → Prop} {k : Bool} : k_dIf ta tb ρ Q k = (if k = true then ta ρ Q else tb ρ Q) := rfl
def k_dCons2 (x : D) (Q : List D → Prop) (xs : List D) : Prop := Q (x :: xs)
theorem k_dCons2_q {x : D} {Q : List D → Prop} {xs : List D} : k_dCons2 x Q xs = (Q (x :: xs)) := rfl
def k_dCons (tr : DA) (ρ : List Slot) (Q : List D → Prop) (x : D) : Prop := tr ρ (k_dCons2 x Q)
theorem k_dCons_q {tr : DA} {ρ : List Slot} {Q : List D → Prop} {x : D} : k_dCons tr ρ Q x = (tr ρ (k_dCons2 x Q)) := rfl
def k_dTup (Q : D → Prop) (xs : List D) : Prop := xs.length ≤ sizeLine ∧ Q (.tup xs)
theorem k_dTup_q {Q : D → Prop} {xs : List D} : k_dTup Q xs = (xs.length ≤ sizeLine ∧ Q (.tup xs)) := rfl
def k_dLst (Q : D → Prop) (xs : List D) : Prop := xs.length ≤ sizeLine ∧ Q (.lst xs)
theorem k_dLst_q {Q : D → Prop} {xs : List D} : k_dLst Q xs = (xs.length ≤ sizeLine ∧ Q (.lst xs)) := rfl
def k_dCall (f : DSp) (dd : List D) (Q : D → Prop) (ds : List D) : Prop := f (ds ++ dd) Q
theorem k_dCall_q {f : DSp} {dd : List D} {Q : D → Prop} {ds : List D} : k_dCall f dd Q ds = (f (ds ++ dd) Q) := rfl
def k_dIsi (T : String) (Q : D → Prop) (d : D) : Prop := d.tyOk = true ∧ Q (.bl (isiD T d))
theorem k_dIsi_q {T : String} {Q : D → Prop} {d : D} : k_dIsi T Q d = (d.tyOk = true ∧ Q (.bl (isiD T d))) := rfl
def k_dIsi2 (T S : String) (Q : D → Prop) (d : D) : Prop := d.tyOk = true ∧ Q (.bl (isiD T d || isiD S d))
theorem k_dIsi2_q {T S : String} {Q : D → Prop} {d : D} : k_dIsi2 T S Q d = (d.tyOk = true ∧ Q (.bl (isiD T d || isiD S d))) := rfl
def k_dSl3 (x : D) (lo : Option Int) (Q : D → Prop) (hi : Option Int) : Prop := slD x lo hi Q
theorem k_dSl3_q {x : D} {lo : Option Int} {Q : D → Prop} {hi : Option Int} : k_dSl3 x lo Q hi = (slD x lo hi Q) := rfl
def k_dSl2 (h : DO) (ρ : List Slot) (x : D) (Q : D → Prop) (lo : Option Int) : Prop := h ρ (k_dSl3 x lo Q)
theorem k_dSl2_q {h : DO} {ρ : List Slot} {x : D} {Q : D → Prop} {lo : Option Int} : k_dSl2 h ρ x Q lo = (h ρ (k_dSl3 x lo Q)) := rfl
def k_dSl (l h : DO) (ρ : List Slot) (Q : D → Prop) (x : D) : Prop := l ρ (k_dSl2 h ρ x Q)
theorem k_dSl_q {l h : DO} {ρ : List Slot} {Q : D → Prop} {x : D} : k_dSl l h ρ Q x = (l ρ (k_dSl2 h ρ x Q)) := rfl
def k_dRev (Q : D → Prop) (x : D) : Prop := revD x Q
theorem k_dRev_q {Q : D → Prop} {x : D} : k_dRev Q x = (revD x Q) := rfl
def k_dLc (g : DG) (tt : DT) (te : DE) (ρ : List Slot) (Q : D → Prop) (ds : List D) : Prop := lcD g tt te ρ ds [] Q
theorem k_dLc_q {g : DG} {tt : DT} {te : DE} {ρ : List Slot} {Q : D → Prop} {ds : List D} : k_dLc g tt te ρ Q ds = (lcD g tt te ρ ds [] Q) := rfl
def k_dB (g : DF) (Q : D → Prop) (ds : List D) : Prop := g ds Q
theorem k_dB_q {g : DF} {Q : D → Prop} {ds : List D} : k_dB g Q ds = g ds Q := rfl
theorem chB_b {k : Bool} {p q : Prop} : chB (.bl k) p q = if k = true then p else q := rfl
theorem tsB_b {b : Bool} {Q : Bool → Prop} : tsB (.bl b) Q = Q b := rfl
theorem dVar_s {i : Nat} {s : Slot} {ρ : List Slot} {Q : D → Prop} : dVar (i + 1) (s :: ρ) Q = dVar i ρ Q := rfl
theorem ownL_o {ds : List D} {P : List D → Prop} : ownL (some (.own (.lst ds))) P = P ds := rfl
theorem e_sAppend {i : Nat} {t : DE} {N : DN} {ρ : List Slot} : sAppend i t N ρ = ownL ρ[i]? (k_sAppend i t N ρ) := rfl
theorem e_sRetOwn {i : Nat} {N : DN} {ρ : List Slot} : sRetOwn i N ρ = ownD ρ[i]? (k_sRetOwn N) := rfl
theorem two_2 {d e : D} {P : D → D → Prop} : two [d, e] P = P d e := rfl
theorem three_3 {d e f : D} {P : D → D → D → Prop} : three [d, e, f] P = P d e f := rfl
theorem e_sPar {i j : Nat} {t : DA} {N : DN} {ρ : List Slot} : sPar i j t N ρ = t ρ (k_sPar i j N ρ) := rfl
theorem e_sPar3 {i j l : Nat} {t : DA} {N : DN} {ρ : List Slot} : sPar3 i j l t N ρ = t ρ (k_sPar3 i j l N ρ) := rfl
theorem asI_i {i : Int} {P : Int → Prop} : asI (.int i) P = P i := rfl
theorem e_dPart {t : DE} {ρ : List Slot} {Q : Option Int → Prop} : dPart t ρ Q = t ρ (k_asI (k_some Q)) := by
  unfold dPart
  rfl
theorem asS_l {ds : List D} {P : List D → Prop} : asS (.lst ds) P = P ds := rfl
theorem asS_t {ds : List D} {P : List D → Prop} : asS (.tup ds) P = P ds := rfl
theorem e_iSeq {t : DE} {ρ : List Slot} {Q : List D → Prop} : iSeq t ρ Q = t ρ (k_asS Q) := rfl
theorem one_1 {d : D} {P : D → Prop} : one [d] P = P d := rfl
theorem e_iRng1D {t : DA} {ρ : List Slot} {Q : List D → Prop} : iRng1D t ρ Q = t ρ (k_one (k_asI (k_rng1 Q))) := by
  unfold iRng1D
  congr
  funext ds
  rcases ds with _ | ⟨d, _ | ⟨_, _⟩⟩
  · rfl
  · cases d <;> rfl
  · cases d <;> rfl
theorem e_iRng2D {t : DA} {ρ : List Slot} {Q : List D → Prop} : iRng2D t ρ Q = t ρ (k_two (k_rng2 Q)) := by
  unfold iRng2D
  congr
  funext ds
  rcases ds with _ | ⟨d, _ | ⟨e, _ | ⟨_, _⟩⟩⟩
  · rfl
  · cases d <;> rfl
  · cases d <;> cases e <;> rfl
  · cases d <;> cases e <;> rfl
def k_for (g : DG) (b : DS) (N : DN) (ds : List D) (ρ' : List Slot) : Prop := b ⟨forD g b N ds, N.rt, N.nx, forD g b N ds, N.ro⟩ ρ'
theorem k_for_q {g : DG} {b : DS} {N : DN} {ds : List D} {ρ' : List Slot} : k_for g b N ds ρ' = b ⟨forD g b N ds, N.rt, N.nx, forD g b N ds, N.ro⟩ ρ' := rfl
theorem e_for_n {g : DG} {b : DS} {N : DN} {ρ : List Slot} : forD g b N [] ρ = N.nx ρ := rfl
theorem e_for_c {g : DG} {b : DS} {N : DN} {d : D} {ds : List D} {ρ : List Slot} : forD g b N (d :: ds) ρ = g d ρ (k_for g b N ds) := rfl
theorem wipeD_n {ρ : List Slot} : wipeD ρ [] = ρ := rfl
theorem wipeD_c {ρ : List Slot} {v : Nat} {vs : List Nat} : wipeD ρ (v :: vs) = (wipeD ρ vs).set v .un := rfl
theorem frz_0 {ρ : List Slot} {d : D} : frz 0 (.own d :: ρ) = .v d :: ρ := rfl
theorem frz_0v {ρ : List Slot} {d : D} : frz 0 (.v d :: ρ) = .v d :: ρ := rfl
theorem frz_s {i : Nat} {s : Slot} {ρ : List Slot} : frz (i + 1) (s :: ρ) = s :: frz i ρ := by
  unfold frz
  rw [List.getElem?_cons_succ]
  cases ρ[i]? with
  | none => rfl
  | some sl => cases sl <;> rfl
theorem slD_l {xs : List D} {lo hi : Option Int} {Q : D → Prop} : slD (.lst xs) lo hi Q = Q (.lst (cutD xs lo hi)) := rfl
theorem slD_t {xs : List D} {lo hi : Option Int} {Q : D → Prop} : slD (.tup xs) lo hi Q = (¬ (HT.sIx xs.length 0 lo = 0 ∧ HT.sIx xs.length xs.length hi = xs.length) ∧ Q (.tup (cutD xs lo hi))) := rfl

theorem roL_l {Q : D → Prop} {ds : List D} : roL Q (.lst ds) = Q (.lst ds) := propext ⟨fun z => z.2, fun z => ⟨rfl, z⟩⟩
theorem e_fnD {n m : Nat} {t : DS} {ds : List D} {Q : D → Prop} : fnD n m t ds Q = (ds.length = m ∧ t ⟨k_non Q, Q, k_no, k_no, roL Q⟩ (ds.map Slot.v ++ List.replicate (n - m) Slot.un)) := rfl
theorem e_sSeq {t u : DS} {N : DN} {ρ : List Slot} : sSeq t u N ρ = t { N with nx := u N } ρ := rfl
theorem e_sNext {N : DN} {ρ : List Slot} : sNext N ρ = N.nx ρ := rfl
theorem e_sBreak {N : DN} {ρ : List Slot} : sBreak N ρ = N.bk ρ := rfl
theorem e_sCont {N : DN} {ρ : List Slot} : sCont N ρ = N.ct ρ := rfl
theorem e_sSet {i : Nat} {t : DE} {N : DN} {ρ : List Slot} : sSet i t N ρ = t ρ (k_sSet i N ρ) := rfl
theorem e_sAsg {t : DE} {g : DG} {N : DN} {ρ : List Slot} : sAsg t g N ρ = t ρ (k_sAsg g N ρ) := rfl
theorem e_sAsg2 {i j : Nat} {t : DE} {N : DN} {ρ : List Slot} : sAsg2 i j t N ρ = t ρ (k_sAsg2 i j N ρ) := rfl
theorem e_sIf {c : DT} {t u : DS} {N : DN} {ρ : List Slot} : sIf c t u N ρ = c ρ (k_sIf t u N ρ) := rfl
theorem e_sRet {t : DE} {N : DN} {ρ : List Slot} : sRet t N ρ = t ρ N.rt := rfl
theorem e_sRetN {N : DN} {ρ : List Slot} : sRetN N ρ = N.rt .non := rfl
theorem e_sDrop {t : DE} {N : DN} {ρ : List Slot} : sDrop t N ρ = t ρ (k_sDrop N ρ) := rfl
theorem e_sNever {N : DN} {ρ : List Slot} : sNever N ρ = False := rfl
theorem e_sOwn {i : Nat} {t : DA} {N : DN} {ρ : List Slot} : sOwn i t N ρ = t ρ (k_sOwn i N ρ) := rfl
theorem e_sFrz {i : Nat} {t : DS} {N : DN} {ρ : List Slot} : sFrz i t N ρ = t N (frz i ρ) := rfl
theorem e_sFor {it : DI} {g : DG} {b : DS} {N : DN} {ρ : List Slot} : sFor it g b N ρ = it ρ (k_sFor g b N ρ) := rfl
theorem e_gN {i : Nat} {d : D} {ρ : List Slot} {Q : List Slot → Prop} : gN i d ρ Q = Q (ρ.set i (.v d)) := rfl
theorem e_gT_t {n : Nat} {gs : List D → List Slot → (List Slot → Prop) → Prop} {ds : List D} {ρ : List Slot} {Q : List Slot → Prop} : gT n gs (.tup ds) ρ Q = (ds.length = n ∧ gs ds ρ Q) := rfl
theorem e_gsNil_n {ρ : List Slot} {Q : List Slot → Prop} : gsNil [] ρ Q = ([] = ([] : List D) ∧ Q ρ) := rfl
theorem e_gsCons_c {g : DG} {gs : List D → List Slot → (List Slot → Prop) → Prop} {d : D} {r : List D} {ρ : List Slot} {Q : List Slot → Prop} : gsCons g gs (d :: r) ρ Q = g d ρ (k_gs gs r Q) := rfl
theorem e_dVar_0 {d : D} {ρ : List Slot} {Q : D → Prop} : dVar 0 (.v d :: ρ) Q = Q d := rfl
theorem e_dVar_0t {x : V} {d : D} {ρ : List Slot} {Q : D → Prop} : dVar 0 (.tg x d :: ρ) Q = Q d := rfl
theorem e_dC {d : D} {ρ : List Slot} {Q : D → Prop} : dC d ρ Q = Q d := rfl
theorem e_dOp {g : D2} {ta tb : DE} {ρ : List Slot} {Q : D → Prop} : dOp g ta tb ρ Q = ta ρ (k_dOp g tb ρ Q) := rfl
theorem e_dChain {g g' : D2} {ta tb tc : DE} {ρ : List Slot} {Q : D → Prop} : dChain g g' ta tb tc ρ Q = ta ρ (k_dCh1 g g' tb tc ρ Q) := rfl
theorem e_dUn {g : D → (D → Prop) → Prop} {ta : DE} {ρ : List Slot} {Q : D → Prop} : dUn g ta ρ Q = ta ρ (k_dUn g Q) := rfl
theorem e_dTest {t : DE} {ρ : List Slot} {Q : Bool → Prop} : dTest t ρ Q = t ρ (k_dTest Q) := rfl
theorem e_dAnd {t u : DT} {ρ : List Slot} {Q : Bool → Prop} : dAnd t u ρ Q = t ρ (k_dAnd u ρ Q) := rfl
theorem e_dOr {t u : DT} {ρ : List Slot} {Q : Bool → Prop} : dOr t u ρ Q = t ρ (k_dOr u ρ Q) := rfl
theorem e_dNot {t : DT} {ρ : List Slot} {Q : Bool → Prop} : dNot t ρ Q = t ρ (k_dNot Q) := rfl
theorem e_dAndV {ta tb : DE} {ρ : List Slot} {Q : D → Prop} : dAndV ta tb ρ Q = ta ρ (k_dAndV tb ρ Q) := rfl
theorem e_dOrV {ta tb : DE} {ρ : List Slot} {Q : D → Prop} : dOrV ta tb ρ Q = ta ρ (k_dOrV tb ρ Q) := rfl
theorem e_dIf {c : DT} {ta tb : DE} {ρ : List Slot} {Q : D → Prop} : dIf c ta tb ρ Q = c ρ (k_dIf ta tb ρ Q) := rfl
theorem e_dNil {ρ : List Slot} {Q : List D → Prop} : dNil ρ Q = Q [] := rfl
theorem e_dCons {ta : DE} {tr : DA} {ρ : List Slot} {Q : List D → Prop} : dCons ta tr ρ Q = ta ρ (k_dCons tr ρ Q) := rfl
theorem e_dTup {t : DA} {ρ : List Slot} {Q : D → Prop} : dTup t ρ Q = t ρ (k_dTup Q) := rfl
theorem e_dLst {t : DA} {ρ : List Slot} {Q : D → Prop} : dLst t ρ Q = t ρ (k_dLst Q) := rfl
theorem e_dCall {f : DSp} {dd : List D} {tr : DA} {ρ : List Slot} {Q : D → Prop} : dCall f dd tr ρ Q = tr ρ (k_dCall f dd Q) := rfl
theorem e_dB {g : DF} {tr : DA} {ρ : List Slot} {Q : D → Prop} : dB g tr ρ Q = tr ρ (k_dB g Q) := rfl
theorem e_dIsi {T : String} {t : DE} {ρ : List Slot} {Q : D → Prop} : dIsi T t ρ Q = t ρ (k_dIsi T Q) := rfl
theorem e_dIsi2 {T S : String} {t : DE} {ρ : List Slot} {Q : D → Prop} : dIsi2 T S t ρ Q = t ρ (k_dIsi2 T S Q) := rfl
theorem e_dSl {t : DE} {l h : DO} {ρ : List Slot} {Q : D → Prop} : dSl t l h ρ Q = t ρ (k_dSl l h ρ Q) := rfl
theorem e_dRev {t : DE} {ρ : List Slot} {Q : D → Prop} : dRev t ρ Q = t ρ (k_dRev Q) := rfl
theorem e_dNo {ρ : List Slot} {Q : Option Int → Prop} : dNo ρ Q = Q none := rfl
theorem e_dYes {ρ : List Slot} {Q : Bool → Prop} : dYes ρ Q = Q true := rfl
theorem e_dLc {it : DI} {g : DG} {tt : DT} {te : DE} {vs : List Nat} {ρ : List Slot} {Q : D → Prop} : dLc it g tt te vs ρ Q = it ρ (k_dLc g tt te (wipeD ρ vs) Q) := rfl
/-! ### closures of what is lent -/
def k_rtNl (Q : D → Prop) (d : D) : Prop := d.noLst = true ∧ Q d
theorem k_rtNl_q {Q : D → Prop} {d : D} : k_rtNl Q d = (d.noLst = true ∧ Q d) := rfl
theorem e_fnO {n m : Nat} {t : DS} {ds : List D} {Q : D → Prop} : fnO n m t ds Q = (ds.length = m ∧ t ⟨k_non Q, k_rtNl Q, k_no, k_no, Q⟩ (ds.map Slot.v ++ List.replicate (n - m) Slot.un)) := rfl
def k_sSetO (i : Nat) (N : DN) (ρ : List Slot) (d : D) : Prop := N.nx (ρ.set i (ownS d))
theorem k_sSetO_q {i : Nat} {N : DN} {ρ : List Slot} {d : D} : k_sSetO i N ρ d = N.nx (ρ.set i (ownS d)) := rfl
theorem e_sSetO {i : Nat} {t : DE} {N : DN} {ρ : List Slot} : sSetO i t N ρ = t ρ (k_sSetO i N ρ) := rfl
def k_sRetO (N : DN) (d : D) : Prop := if d.noLst = true then N.rt d else N.ro d
theorem k_sRetO_q {N : DN} {d : D} : k_sRetO N d = if d.noLst = true then N.rt d else N.ro d := rfl
theorem e_sRetO {t : DE} {N : DN} {ρ : List Slot} : sRetO t N ρ = t ρ (k_sRetO N) := rfl
def k_nl (Q : D → Prop) (d : D) : Prop := d.noLst = true ∧ Q d
theorem k_nl_q {Q : D → Prop} {d : D} : k_nl Q d = (d.noLst = true ∧ Q d) := rfl
def k_nls (Q : List D → Prop) (ds : List D) : Prop := D.noLsts ds = true ∧ Q ds
theorem k_nls_q {Q : List D → Prop} {ds : List D} : k_nls Q ds = (D.noLsts ds = true ∧ Q ds) := rfl
def k_nlc (Q : D → Prop) (d : D) : Prop := d.nlc = true ∧ Q d
theorem k_nlc_q {Q : D → Prop} {d : D} : k_nlc Q d = (d.nlc = true ∧ Q d) := rfl
theorem e_dBor {i : Nat} {t : DE} {ρ : List Slot} {Q : D → Prop} : dBor i t ρ Q = t (frz i ρ) (k_nl Q) := rfl
theorem e_dBorO {i : Nat} {t : DE} {ρ : List Slot} {Q : D → Prop} : dBorO i t ρ Q = t (frz i ρ) (k_nlc Q) := rfl
theorem e_dBorA {i : Nat} {t : DA} {ρ : List Slot} {Q : List D → Prop} : dBorA i t ρ Q = t (frz i ρ) (k_nls Q) := rfl
theorem e_dBorT {i : Nat} {t : DT} {ρ : List Slot} {Q : Bool → Prop} : dBorT i t ρ Q = t (frz i ρ) Q := rfl
theorem frz_0u {ρ : List Slot} : frz 0 (.un :: ρ) = .un :: ρ := rfl
theorem frz_0t {x : V} {d : D} {ρ : List Slot} : frz 0 (.tg x d :: ρ) = .tg x d :: ρ := rfl
def k_back (i : Nat) (vs : Nat → V) (d : D) (P : List Slot → Prop) (ρ ρ' : List Slot) : Prop := ρ'[i]? = some (.tg (vs i) d) ∧ ρ.length = ρ'.length ∧ P (backAll vs i 0 ρ ρ')
theorem k_back_q {i : Nat} {vs : Nat → V} {d : D} {P : List Slot → Prop} {ρ ρ' : List Slot} : k_back i vs d P ρ ρ' = (ρ'[i]? = some (.tg (vs i) d) ∧ ρ.length = ρ'.length ∧ P (backAll vs i 0 ρ ρ')) := rfl
def k_lend (i : Nat) (t : DS) (N : DN) (ρ : List Slot) (d : D) : Prop := ∀ vs : Nat → V, t ⟨k_back i vs d N.nx ρ, N.rt, k_back i vs d N.bk ρ, k_back i vs d N.ct ρ, N.ro⟩ (tagAll vs 0 (ρ.set i (.v d)))
theorem k_lend_q {i : Nat} {t : DS} {N : DN} {ρ : List Slot} {d : D} : k_lend i t N ρ d = ∀ vs : Nat → V, t ⟨k_back i vs d N.nx ρ, N.rt, k_back i vs d N.bk ρ, k_back i vs d N.ct ρ, N.ro⟩ (tagAll vs 0 (ρ.set i (.v d))) := rfl
theorem e_sLend {i : Nat} {t : DS} {N : DN} {ρ : List Slot} : sLend i t N ρ = ownD ρ[i]? (k_lend i t N ρ) := rfl
section
variable {vs : Nat → V} {i j : Nat} {ρ ρ' : List Slot} {d e : D} {ds : List D} {u w : V} {b : Bool} {s s' : Slot}
theorem tag_n : tagAll vs j [] = [] := rfl
theorem tag_v : tagAll vs j (.v d :: ρ) = .tg (vs j) d :: tagAll vs (j + 1) ρ := rfl
theorem tag_u : tagAll vs j (.un :: ρ) = .un :: tagAll vs (j + 1) ρ := rfl
theorem tag_t : tagAll vs j (.tg u d :: ρ) = .tg u d :: tagAll vs (j + 1) ρ := rfl
theorem tag_o : tagAll vs j (.own d :: ρ) = .own d :: tagAll vs (j + 1) ρ := rfl
theorem tag_c : tagAll vs j (s :: ρ) = tagS (vs j) s :: tagAll vs (j + 1) ρ := rfl
theorem tagS_v : tagS u (.v d) = .tg u d := rfl
theorem tagS_u : tagS u .un = .un := rfl
theorem tagS_o : tagS u (.own d) = .own d := rfl
theorem tagS_t : tagS u (.tg w d) = .tg w d := rfl
theorem back_n : backAll vs i j [] [] = [] := rfl
theorem back_c : backAll vs i j (s :: ρ) (s' :: ρ') = backS (decide (j = i)) (vs j) s s' :: backAll vs i (j + 1) ρ ρ' := rfl
theorem backS_vt : backS b u (.v d) (.tg u e) = .v d := if_pos rfl
theorem backS_tt : backS b u (.tg w d) (.tg w e) = .tg w d := if_pos rfl
theorem backS_ot : backS true u (.own d) (.tg u e) = .own d := if_pos ⟨rfl, rfl⟩
theorem backS_ut : backS b u .un (.tg w e) = .un := rfl
theorem backS_u : backS b u s .un = .un := by cases s <;> rfl
theorem backS_v : backS b u s (.v d) = if d.noLst = true then .v d else .un := by cases s <;> rfl
theorem backS_l : backS b u s (.own (.lst ds)) = if D.noLsts ds = true then .own (.lst ds) else .un := by cases s <;> rfl
theorem backS_d {kvs : List (D × D)} : backS b u s (.own (.dic kvs)) = if D.noLsts (kvs.map (·.2)) = true then .own (.dic kvs) else .un := by cases s <;> rfl
theorem ownS_l : ownS (.lst ds) = .own (.lst ds) := rfl
theorem ownS_d {kvs : List (D × D)} : ownS (.dic kvs) = .own (.dic kvs) := rfl
theorem ownS_t : ownS (.tup ds) = .v (.tup ds) := rfl
theorem ownS_i {i : Int} : ownS (.int i) = .v (.int i) := rfl
theorem ownS_n : ownS .non = .v .non := rfl
theorem noLst_l : (D.lst ds).noLst = false := rfl
theorem noLst_i {i : Int} : (D.int i).noLst = true := rfl
theorem noLst_b {i : Bool} : (D.bl i).noLst = true := rfl
theorem noLst_s {i : Str} : (D.str i).noLst = true := rfl
theorem noLst_n : D.non.noLst = true := rfl
theorem noLst_d {kvs : List (D × D)} : (D.dic kvs).noLst = false := rfl
theorem noLst_t : (D.tup ds).noLst = D.noLsts ds := by simp only [D.noLst]
theorem noLsts_n : D.noLsts [] = true := by simp only [D.noLsts]
theorem noLsts_c : D.noLsts (d :: ds) = (d.noLst && D.noLsts ds) := by simp only [D.noLsts]
theorem noLsts_map {α : Type} {f : α → D} (h : ∀ a, (f a).noLst = true) : ∀ {l : List α}, D.noLsts (l.map f) = true
  | [] => by simp [D.noLsts]
  | a :: l => by simp [D.noLsts, h a, noLsts_map h]
theorem nlc_l : (D.lst ds).nlc = D.noLsts ds := rfl
theorem nlc_d {kvs : List (D × D)} : (D.dic kvs).nlc = D.noLsts (kvs.map (·.2)) := rfl
theorem nlc_i {i : Int} : (D.int i).nlc = true := rfl
theorem nlc_b {i : Bool} : (D.bl i).nlc = true := rfl
theorem nlc_t : (D.tup ds).nlc = D.noLsts ds := noLst_t
end
def ownK (s : Option Slot) (P : List (D × D) → Prop) : Prop := match s with
  | some (.own (.dic ds)) => P ds
  | _ => False
theorem ownK_o {ds : List (D × D)} {P : List (D × D) → Prop} : ownK (some (.own (.dic ds))) P = P ds := rfl
def k_put2 (i : Nat) (N : DN) (ρ : List Slot) (kvs : List (D × D)) (v k : D) : Prop := keyFor kvs k ∧ kvs.length < sizeLine ∧ N.nx (ρ.set i (.own (.dic (dputD kvs k v))))
theorem k_put2_q {i : Nat} {N : DN} {ρ : List Slot} {kvs : List (D × D)} {v k : D} : k_put2 i N ρ kvs v k = (keyFor kvs k ∧ kvs.length < sizeLine ∧ N.nx (ρ.set i (.own (.dic (dputD kvs k v))))) := rfl
def k_put1 (i : Nat) (tk : DE) (N : DN) (ρ : List Slot) (kvs : List (D × D)) (v : D) : Prop := tk ρ (k_put2 i N ρ kvs v)
theorem k_put1_q {i : Nat} {tk : DE} {N : DN} {ρ : List Slot} {kvs : List (D × D)} {v : D} : k_put1 i tk N ρ kvs v = tk ρ (k_put2 i N ρ kvs v) := rfl
def k_put (i : Nat) (tk tv : DE) (N : DN) (ρ : List Slot) (kvs : List (D × D)) : Prop := tv ρ (k_put1 i tk N ρ kvs)
theorem k_put_q {i : Nat} {tk tv : DE} {N : DN} {ρ : List Slot} {kvs : List (D × D)} : k_put i tk tv N ρ kvs = tv ρ (k_put1 i tk N ρ kvs) := rfl
theorem e_sPutD {i : Nat} {tk tv : DE} {N : DN} {ρ : List Slot} : sPutD i tk tv N ρ = ownK ρ[i]? (k_put i tk tv N ρ) := rfl
theorem e_dD0 {ρ : List Slot} {Q : D → Prop} : dD0 ρ Q = Q (.dic []) := rfl
theorem inKD_d {x : D} {kvs : List (D × D)} {Q : D → Prop} : inKD x (.dic kvs) Q = (keyFor kvs x ∧ Q (.bl (dgetD kvs x).isSome)) := rfl
theorem notInKD_d {x : D} {kvs : List (D × D)} {Q : D → Prop} : notInKD x (.dic kvs) Q = (keyFor kvs x ∧ Q (.bl (!(dgetD kvs x).isSome))) := rfl
theorem dictC_l {ps : List D} {Q : D → Prop} : dictC [.lst ps] Q = ∃ kvs, ps = kvs.map tup2 ∧ oneKind kvs ∧ Q (.dic (mergeD [] kvs)) := rfl
end DV

/-! ### sum of lists, from a list on -/
namespace DV
open PySem PySem.Spec PyProof.Rows L2
abbrev lstO (vs : List Value) (n : Nat) : Obj := { cls := .type "list", data := .seq vs.toArray n }
section
variable {prog : Program} {w : World} {A : Around} {R : Result → Shared → Prop} {I : Addr} {fp wr : List Addr} {G : Array GenState → Array GenState → Prop} {n : Nat} {P : Nat → Value → Prop} {St : Nat → Shared → Prop}
theorem sum_lists_loop (W : WalksS prog w A.in1 I fp wr G n P St) (h0 : Heap) (its : Nat → List Value) (hval : ∀ i v, P i v → ∃ L k, v = .ref L ∧ h0.get? L = some (lstO (its i) k)) (S : Addr) (hSf : S ∉ fp) (hS0 : h0.get? S = none) (hw0 : ∀ b ∈ wr, h0.get? b = none) (hwS : ∀ b ∈ wr, b < S) :
    ∀ (k i : Nat) (s : Shared) (T : Addr) (m c : Nat) (acc : List Value), n - i = k → i ≤ n → St i s → s.heap.get? S = some { cls := .type "list", dict := none, data := .seq #[.ref T] c, slots := #[] } → s.heap.get? T = some (lstO acc m) → T ≠ S → T ∉ wr → (∀ b o, h0.get? b = some o → s.heap.get? b = some o) →
    acc.length + ((List.range' i (n - i)).map fun j => (its j).length).sum ≤ sizeLine →
    (∀ s' T' m', (∀ b o, h0.get? b = some o → s'.heap.get? b = some o) → s'.heap.get? T' = some (lstO (acc ++ (List.range' i (n - i)).flatMap its) m') → ((i = n ∧ T' = T) ∨ S ≤ T') → Moved (S :: wr) G s s' → R (.ok (.ret (.ref T'))) s') → codeAny (model prog w) A (.builtin "sum.loop" ⟨[.ref I, .ref S, rawInt 2, rawInt 0], []⟩) R s := by
  have hSw : S ∉ wr := fun h => hSf (W.sub _ h)
  have hsub : ∀ b ∈ wr, b ∈ S :: wr := fun b hb => List.mem_cons_of_mem _ hb
  intro k
  induction k with
  | zero =>
    intro i s T m c acc hk hi hst hS hT hTS hTw hkeep hz hR
    have hin : i = n := by omega
    subst hin
    refine codeAny_builtin PySem.F.entry_sum_loop ?_
    rw [Around.under_plainId PySem.F.plain_sum_loop _]
    show wpAny _ A.in1 (seqItems? (.ref S) >>= _) _ _ s
    refine wpAny_bind (wpAny_seqItems hS rfl ?_)
    show wpAny _ A.in1 (tryCatch (pyNext (.ref I)) _ >>= _) _ _ s
    refine wpAny_bind (wpAny_tryCatch (W.done s _ _ hst fun s' hm => ?_))
    refine wpAny_pure (hR s' T m (fun b o e => hm.heap b o (fun hb => by rw [hw0 b hb] at e; cases e) (hkeep b o e)) ?_ (.inl ⟨rfl, rfl⟩) (hm.mono hsub))
    rw [Nat.sub_self, List.range'_zero, List.flatMap_nil, List.append_nil]
    exact hm.heap T _ hTw hT
  | succ k ih =>
    intro i s T m c acc hk hi hst hS hT hTS hTw hkeep hz hR
    have hlt : i < n := by omega
    have hr : List.range' i (n - i) = i :: List.range' (i + 1) (n - (i + 1)) := by
      rw [show n - i = (n - (i + 1)) + 1 by omega, List.range'_succ]
    rw [hr, List.map_cons, List.sum_cons] at hz
    refine codeAny_builtin PySem.F.entry_sum_loop ?_
    rw [Around.under_plainId PySem.F.plain_sum_loop _]
    show wpAny _ A.in1 (seqItems? (.ref S) >>= _) _ _ s
    refine wpAny_bind (wpAny_seqItems hS rfl ?_)
    show wpAny _ A.in1 (tryCatch (pyNext (.ref I)) _ >>= _) _ _ s
    refine wpAny_bind (wpAny_tryCatch (W.item i s _ _ hlt hst fun v s' hP hst' hm => ?_))
    obtain ⟨L, k2, rfl, hL⟩ := hval i v hP
    have hS' := hm.heap S _ hSw hS
    have hT' := hm.heap T _ hTw hT
    have kp : ∀ b o, h0.get? b = some o → s'.heap.get? b = some o := fun b o e => hm.heap b o (fun hb => by rw [hw0 b hb] at e; cases e) (hkeep b o e)
    have hL' := kp L _ hL
    show wpAny _ A.in1 ((holding [Value.ref L] (binaryOp .Add (.ref T) (.ref L))).attempt >>= _) _ _ _
    refine wpAny_bind (wpAny_attempt (wpAny_holding (PySem.P.add_list (items := acc.toArray) (items2 := (its i).toArray) hT' hL' ?_ (by rw [List.size_toArray, List.size_toArray]; omega))))
    rw [show acc.toArray ++ (its i).toArray = (acc ++ its i).toArray by simp]
    have pk : ∀ b o, s'.heap.get? b = some o → (s'.heap.push (lstO (acc ++ its i) 0)).get? b = some o := fun b o e => Heap.get?_push_of_some _ e
    have lS : S < s'.heap.objs.size := Heap.lt_size hS'
    have nT : s'.heap.objs.size ≠ S := Nat.ne_of_gt lS
    have nW : s'.heap.objs.size ∉ wr := fun z => Nat.lt_irrefl _ (Nat.lt_trans lS (hwS _ z))
    have hS1 := pk S _ hS'
    show wpAny _ A.in1 (updateSeq S (fun _ => #[.ref s'.heap.objs.size]) >>= _) _ _ _
    refine wpAny_bind (wpAny_updateSeq hS1 rfl ?_)
    have hS2 := Heap.get?_update_self (Obj.mapSeq fun _ => #[Value.ref s'.heap.objs.size]) hS1 rfl
    refine wpAny_bind (wpAny_letGo ?_)
    have old : ∀ b o, b ≠ S → s'.heap.get? b = some o → (((s'.heap.push (lstO (acc ++ its i) 0)).update S (Obj.mapSeq fun _ => #[Value.ref s'.heap.objs.size])).update S (Obj.mapSeq fun _ => #[Value.ref s'.heap.objs.size])).get? b = some o := fun b o hb e =>
      (Heap.get?_update_other _ _ (Ne.symm hb)).trans ((Heap.get?_update_other _ _ (Ne.symm hb)).trans (pk b o e))
    refine wpAny_bind (wpAny_updateSeq hS2 rfl (wpAny_pure ⟨plainId_quiet PySem.F.plain_sum_loop _, ih (i + 1) _ s'.heap.objs.size 0 _ (acc ++ its i) (by omega) hlt (W.frame _ s' _ _ hst' (Nat.le_refl _) fun b hb o e => old b o (fun h => hSf (by rw [← h]; exact hb)) e) (Heap.get?_update_self _ hS2 rfl) ?_ nT nW (fun b o e => old b o (fun h => by rw [h, hS0] at e; cases e) (kp b o e)) (by rw [List.length_append]; omega) fun s'' T' m' q1 q2 q3 hm'' => ?_⟩))
    · exact (Heap.get?_update_other _ _ (Ne.symm nT)).trans ((Heap.get?_update_other _ _ (Ne.symm nT)).trans (Heap.get?_push_size _ rfl))
    · refine hR s'' T' m' q1 ?_ (.inr (q3.elim (fun z => by rw [z.2]; exact Nat.le_of_lt lS) id)) (Moved.trans W.gtrans ((hm.mono hsub).then_heap (Nat.le_refl _) fun b o hb e => old b o (fun h => hb (by rw [h]; exact List.mem_cons_self)) e) hm'')
      rw [hr, List.flatMap_cons, ← List.append_assoc]
      exact q2
end
section
variable {prog : Program} {w : World} {A : Around} {E : Value → Shared → Prop} {s : Shared}
theorem args_sum2 (a b : Value) : argsOk "sum" ⟨[a, b], []⟩ := by unfold argsOk; kernel_rfl
theorem sum_lists_call {l T : Addr} {vs acc : List Value} {m : Nat} {Q : Value → Shared → Prop} (its : Nat → List Value) (hh : A.handled = none) (hl : s.heap.IsList l vs.toArray) (hT : s.heap.get? T = some (lstO acc m))
    (hval : ∀ i v, vs[i]? = some v → ∃ L k, v = .ref L ∧ s.heap.get? L = some (lstO (its i) k)) (hz : acc.length + ((List.range' 0 vs.length).map fun j => (its j).length).sum ≤ sizeLine)
    (h : ∀ h' tk T' m', (∀ b o, s.heap.get? b = some o → h'.get? b = some o) → h'.get? T' = some (lstO (acc ++ (List.range' 0 vs.length).flatMap its) m') → ((vs = [] ∧ T' = T) ∨ s.heap.objs.size ≤ T') → Q (.ref T') { s with heap := h', toks := tk }) : wpAny (model prog w) A (call (.builtin "sum") [.ref l, .ref T]) Q E s := by
  refine call_function_tree PySem.F.kind_sum PySem.F.plain_sum PySem.F.entry_sum (args_sum2 _ _) ?_
  unfold Builtin.«sum»
  simp only [List.length_cons, List.length_nil]
  rw [if_neg (by decide)]
  refine wpAny_bind (wpAny_of_eq (show Builtin.Builtins.bindParams "sum" ["start"] 0 ⟨[.ref T], []⟩ = pure [some (.ref T)] from rfl) ?_)
  refine wpAny_bind (W.iter_listW hh hl fun s₂ e2 Wk st hfp hw hk => ?_)
  dsimp only
  refine wpAny_bind (wpAny_pure ?_)
  have tyT : s₂.TypeIs (.ref T) "list" := ⟨_, hk T _ hT, rfl⟩
  simp only [List.forIn_cons, List.forIn_nil]
  refine wpAny_bind (wpAny_bind (wpAny_bind (wpAny_isInstance (T := "list") (b := false) tyT PySem.F.sub_list_str ?_)))
  simp only [Bool.false_eq_true, if_false]
  refine wpAny_pure (wpAny_bind (wpAny_bind (wpAny_isInstance (T := "list") (b := false) tyT PySem.F.sub_list_bytes ?_)))
  simp only [Bool.false_eq_true, if_false]
  refine wpAny_pure (wpAny_bind (wpAny_bind (wpAny_isInstance (T := "list") (b := false) tyT PySem.F.sub_list_bytearray ?_)))
  simp only [Bool.false_eq_true, if_false]
  refine wpAny_pure (wpAny_pure ?_)
  refine wpAny_bind (wpAny_newObj_type ?_)
  have hsz : s₂.heap.objs.size = s.heap.objs.size + 1 := by rw [e2]; exact Heap.size_push _ _
  have hSf : s₂.heap.objs.size ∉ [s.heap.objs.size, l] := fun hm => Nat.lt_irrefl _ (hfp _ hm)
  refine wpAny_pure ⟨plainId_quiet PySem.F.plain_sum_loop _, sum_lists_loop Wk s.heap its (fun i v hv => hval i v (by simpa using hv)) s₂.heap.objs.size hSf ?_ ?_ ?_ vs.toArray.size 0 _ T m _ acc rfl (Nat.zero_le _)
    (Wk.frame 0 s₂ _ _ st (Nat.le_refl _) fun b _ o e => Heap.get?_push_of_some _ e) (Heap.get?_push_size _ rfl) (Heap.get?_push_of_some _ (hk T _ hT)) ?_ ?_ (fun b o e => Heap.get?_push_of_some _ (hk b o e)) ?_ fun s' T' m' q1 q2 q3 hm => ?_⟩
  · exact Heap.get?_none_of_le (by rw [hsz]; exact Nat.le_succ _)
  · intro b hb
    rw [List.mem_singleton] at hb
    subst hb
    exact Heap.get?_none_of_le (Nat.le_refl _)
  · intro b hb
    rw [List.mem_singleton] at hb
    rw [hb, hsz]
    exact Nat.lt_succ_self _
  · intro z
    have k := Heap.lt_size hT
    rw [z, hsz] at k
    exact Nat.not_lt_of_ge (Nat.le_succ _) k
  · intro hb
    rw [List.mem_singleton] at hb
    have k := Heap.lt_size hT
    rw [hb] at k
    exact Nat.lt_irrefl _ k
  · simpa using hz
  · have e3 : s' = { s with heap := s'.heap, toks := s'.toks } := by
      obtain ⟨hp, g, d, tk, os⟩ := s'
      have k1 : g = s₂.gens := hm.gens
      have k2 : d = s₂.drawn := hm.drawn
      have k3 : os = s₂.os := hm.os
      rw [e2] at k1 k2 k3
      subst k1 k2 k3
      rfl
    rw [e3]
    exact h _ _ T' m' q1 (by simpa using q2) (q3.imp (fun z => ⟨by have := z.1; simpa using this.symm, z.2⟩) fun z => Nat.le_trans (by rw [hsz]; exact Nat.le_succ _) z)
end
section
variable {X : Cx} {K : PySem.W.Frag}
/-- sum of a list of lists, from a list on -/
def rSumL (K : PySem.W.Frag) : List V → Hp → VK → Prop := fun vs H Q => ∃ (a t : Addr) (xs acc : List V) (its : Nat → List V), vs = [.ref a, .ref t] ∧ H a = some (.lst xs) ∧ H t = some (.lst acc) ∧ (∀ i x, xs[i]? = some x → ∃ l, x = .ref l ∧ H l = some (.lst (its i))) ∧
  acc.length + ((List.range' 0 xs.length).map fun j => (its j).length).sum ≤ sizeLine ∧ (xs = [] → Q (.ref t) H) ∧ ∀ p, H p = none → Q (.ref p) (upd H p (.lst (acc ++ (List.range' 0 xs.length).flatMap its)))
theorem vals_flat {its : Nat → List V} {us : Nat → List Value} : ∀ (l : List Nat), (∀ i ∈ l, Vals (its i) (us i)) → Vals (l.flatMap its) (l.flatMap us)
  | [], _ => by rw [List.flatMap_nil, List.flatMap_nil]; exact Paired.nil
  | i :: l, h => by
    rw [List.flatMap_cons, List.flatMap_cons]
    exact (h i List.mem_cons_self).append (vals_flat l fun j hj => h j (List.mem_cons_of_mem _ hj))
theorem cr_sumL (hc : X.calm = true) : CallR X (.builtin "sum") (rSumL X.K) := by
  intro pins s σ H vs us Q I r h
  obtain ⟨a, t, xs, acc, its, rfl, hx, ht, hi, hz, q0, q⟩ := h
  obtain ⟨u, u', rfl, r1, r2⟩ := vals2 r
  cases r1
  cases r2
  obtain ⟨_, vx, nx, rx, lx, ex⟩ := I.lstM hx
  obtain ⟨_, va, na, ra, la, ea⟩ := I.lstM ht
  have key : ∀ i, ∃ w : List Value, ∀ x, xs[i]? = some x → ∃ (l : Addr) (k : Nat), x = .ref l ∧ Vals (its i) w ∧ s.heap.get? l = some (lstO w k) := fun i => by
    cases e : xs[i]? with
    | none => exact ⟨[], fun x z => by cases z⟩
    | some x =>
      obtain ⟨l, rfl, hl⟩ := hi i x e
      obtain ⟨_, w, k, rw_, _, ew⟩ := I.lstM hl
      exact ⟨w, fun y z => by cases z; exact ⟨l, k, rfl, rw_, ew⟩⟩
  obtain ⟨ws, hw⟩ := Classical.axiomOfChoice key
  have len : ∀ i, i < xs.length → (its i).length = (ws i).length := fun i hi => by
    obtain ⟨l, k, _, rv, _⟩ := hw i _ (List.getElem?_eq_getElem hi)
    exact rv.length
  have hlen : (List.range' 0 vx.length).map (fun j => (ws j).length) = (List.range' 0 xs.length).map fun j => (its j).length := by
    rw [← lx]
    refine List.map_congr_left fun i hi => ?_
    have := (List.mem_range'_1.mp hi).2
    exact (len i (by omega)).symm
  refine sum_lists_call (vs := vx) (acc := va) ws (I.ok.hd hc) ⟨_, ex, rfl, _, rfl⟩ ea (fun i v hv => ?_) (by rw [hlen, ← la]; exact hz) fun h' tk T' m' k1 k2 k3 => ?_
  · have hi' : i < xs.length := by rw [lx]; exact (List.getElem?_eq_some_iff.mp hv).1
    obtain ⟨x, e⟩ : ∃ x, xs[i]? = some x := ⟨_, List.getElem?_eq_getElem hi'⟩
    obtain ⟨v', e', rel⟩ := rx.get e
    rw [hv] at e'
    cases e'
    obtain ⟨l, k, rfl, _, ew⟩ := hw i x e
    cases rel
    exact ⟨l, k, rfl, ew⟩
  · rcases k3 with ⟨e1, e2⟩ | k3
    · subst e2
      have : xs = [] := List.length_eq_zero_iff.mp (by rw [lx, e1]; rfl)
      exact ⟨.ref T', H, I.kept k1, rfl, q0 this⟩
    · have hv : Vals (acc ++ (List.range' 0 xs.length).flatMap its) (va ++ (List.range' 0 vx.length).flatMap ws) := by
        rw [← lx]
        refine ra.append (vals_flat _ fun i hi => ?_)
        have hi' := (List.mem_range'_1.mp hi).2
        obtain ⟨l, k, _, rv, _⟩ := hw i _ (List.getElem?_eq_getElem (show i < xs.length by omega))
        exact rv
      have hz' : (acc ++ (List.range' 0 xs.length).flatMap its).length ≤ sizeLine := by
        rw [List.length_append, List.length_flatMap]
        exact hz
      exact ⟨.ref T', _, I.laid (t' := tk) (o := .lst (acc ++ (List.range' 0 xs.length).flatMap its)) k1 k3 ⟨hz', _, m', hv, k2⟩, rfl, q _ (I.hok.fresh k3)⟩
def sumLD : DF := fun ds Q => match ds with
  | [.lst xs, .lst acc] => ∃ yss : List (List D), xs = yss.map D.lst ∧ acc.length + (yss.map List.length).sum ≤ sizeLine ∧ Q (.lst (acc ++ yss.flatten))
  | _ => False
theorem RpA.lsts {K : PySem.W.Frag} {F : Hp} : ∀ {xs : List V} {yss : List (List D)}, RpA K F xs (yss.map D.lst) → ∃ its : Nat → List V, (∀ i x, xs[i]? = some x → ∃ l, x = .ref l ∧ F l = some (.lst (its i))) ∧ (List.range' 0 xs.length).map (fun j => (its j).length) = yss.map List.length ∧ RpA K F ((List.range' 0 xs.length).flatMap its) yss.flatten
  | [], [], _ => ⟨fun _ => [], fun i x h => by simp at h, rfl, .nil⟩
  | [], _ :: _, r => by cases r
  | _ :: _, [], r => by cases r
  | x :: xs, ys :: yss, r => by
    rw [List.map_cons] at r
    cases r with
    | cons r1 r2 =>
      cases r1 with
      | lst h1 ra =>
        rename_i l zs
        obtain ⟨its, f1, f2, f3⟩ := RpA.lsts r2
        refine ⟨fun i => match i with
          | 0 => zs
          | i + 1 => its i, fun i x hx => ?_, ?_, ?_⟩
        · cases i with
          | zero => simp at hx; subst hx; exact ⟨l, rfl, h1⟩
          | succ i => exact f1 i x (by simpa using hx)
        · rw [List.length_cons, List.range'_succ, List.map_cons, List.map_cons, ra.length, ← f2, Nat.zero_add, ← List.map_add_range' 0 (xs.length) 1, List.map_map]
          refine congrArg _ (List.map_congr_left fun i _ => ?_)
          show (match 1 + i with
            | 0 => zs
            | i + 1 => its i).length = _
          rw [Nat.add_comm]
        · rw [List.length_cons, List.range'_succ, List.flatMap_cons, List.flatten_cons, Nat.zero_add, ← List.map_add_range' 0 (xs.length) 1, List.flatMap_map]
          refine ra.append ?_
          have e : (fun a => (match 1 + a with
            | 0 => zs
            | i + 1 => its i)) = its := funext fun i => by rw [Nat.add_comm]
          rw [e]
          exact f3
theorem cd_sumL {K : PySem.W.Frag} : CallD K (rSumL K) sumLD := fun F H xs ds Q0 Q s r q k => by
  rcases r with _ | ⟨r1, _ | ⟨r2, _ | ⟨_, _⟩⟩⟩ <;> first | exact q.elim | (cases r1 <;> exact q.elim) | (cases r1 <;> cases r2 <;> exact q.elim) | skip
  cases r1 <;> first | exact q.elim | skip
  cases r2 <;> first | exact q.elim | skip
  rename_i a xs ds h1 ra t ys es h2 rb
  obtain ⟨yss, rfl, hz, q⟩ := q
  obtain ⟨its, f1, f2, f3⟩ := ra.lsts
  refine ⟨a, t, xs, ys, its, rfl, s.lst h1, s.lst h2, fun i x hx => ?_, by rw [rb.length, f2]; exact hz, fun e => ?_, fun p hp => ?_⟩
  · obtain ⟨l, e, hl⟩ := f1 i x hx
    exact ⟨l, e, s.lst hl⟩
  · subst e
    cases yss with
    | nil =>
      rw [List.flatten_nil, List.append_nil] at q
      exact k _ H F _ (.refl s) (.lst h2 rb) q
    | cons _ _ => cases ra
  · exact k _ _ _ _ (Ext.newL s hp) (.lst upd_same ((rb.append f3).mono (Ext.newL s hp).mono)) q
end
end DV

/-! ### slices with a step -/
namespace DV
open PySem PySem.Spec PyProof.Rows PyProof.V L2
def ixs (lo hi : Option Int) (c : Int) (n : Nat) : List Nat := (List.range (Builtin.Slice.slicePlaces (Builtin.Slice.sliceAdjust lo hi c n).1 (Builtin.Slice.sliceAdjust lo hi c n).2 c)).map fun (k : Nat) => ((Builtin.Slice.sliceAdjust lo hi c n).1 + (k : Int) * c).toNat
def ixsL (lo hi : Option Int) (c : Int) (n : Nat) : List Nat := sliceRange (sliceBounds lo hi (some c) n).1 (sliceBounds lo hi (some c) n).2.1 (sliceBounds lo hi (some c) n).2.2
def pick {α : Type} (xs : List α) (l : List Nat) : List α := l.filterMap (xs[·]?)
theorem pick_vals {xs : List V} {us : List Value} (r : Vals xs us) : ∀ l : List Nat, Vals (pick xs l) (pick us l)
  | [] => Paired.nil
  | i :: l => by
    unfold pick
    rw [List.filterMap_cons, List.filterMap_cons]
    cases e : xs[i]? with
    | none =>
      rw [r.none_of e]
      exact pick_vals r l
    | some x =>
      obtain ⟨u, eu, ru⟩ := r.get e
      rw [eu]
      exact Paired.cons ru (pick_vals r l)
theorem pick_rp {K : PySem.W.Frag} {F : Hp} {xs : List V} {ds : List D} (r : RpA K F xs ds) : ∀ l : List Nat, RpA K F (pick xs l) (pick ds l)
  | [] => .nil
  | i :: l => by
    unfold pick
    rw [List.filterMap_cons, List.filterMap_cons]
    cases e : ds[i]? with
    | none =>
      have h := List.getElem?_eq_none_iff.mp e
      rw [List.getElem?_eq_none_iff.mpr (by rw [r.length]; exact h)]
      exact pick_rp r l
    | some d =>
      obtain ⟨v, ev, rv⟩ := r.get e
      rw [ev]
      exact .cons rv (pick_rp r l)
section
variable {prog : Program} {w : World} {A : Around} {E : Value → Shared → Prop} {s : Shared}
theorem slice_applied {sl : Addr} {vl vu vs : Value} {lo hi : Option Int} {c : Int} {n : Nat} {Q : Int × Int × Nat → Shared → Prop} (hs : s.heap.IsSliceOf sl vl vu vs) (pl : IsPart vl lo) (pu : IsPart vu hi) (ps : IsPart vs (some c)) (h0 : c ≠ 0)
    (h : Q ((Builtin.Slice.sliceAdjust lo hi c n).1, c, Builtin.Slice.slicePlaces (Builtin.Slice.sliceAdjust lo hi c n).1 (Builtin.Slice.sliceAdjust lo hi c n).2 c) s) : wpAny (model prog w) A (Builtin.Slice.sliceApplied (.ref sl) (pure (n : Int))) Q E s := by
  obtain ⟨os, hos, hcs, hds⟩ := id hs
  unfold Builtin.Slice.sliceApplied Builtin.Slice.sliceFields
  refine wpAny_bind (wpAny_bind (wpAny_field hos hds (x := vl) rfl (wpAny_bind (wpAny_field hos hds (x := vu) rfl (wpAny_bind (wpAny_field hos hds (x := vs) rfl (wpAny_pure ?_)))))))
  refine wpAny_bind (HT.slicePart_ ps ?_)
  show wpAny _ _ (if (c == 0) = true then _ else _) _ _ s
  rw [if_neg (by simpa using h0)]
  refine wpAny_bind (HT.slicePart_ pl (wpAny_bind (HT.slicePart_ pu (wpAny_bind (wpAny_pure ?_)))))
  exact wpAny_pure h
theorem pick_arr (items : Array Value) (a c : Int) (k : Nat) : ((List.range k).filterMap fun (m : Nat) => items[(a + (m : Int) * c).toNat]?).toArray = (pick items.toList ((List.range k).map fun (m : Nat) => (a + (m : Int) * c).toNat)).toArray := by
  unfold pick
  rw [List.filterMap_map]
  congr 1
  refine congrArg (fun f => List.filterMap f (List.range k)) (funext fun m => ?_)
  simp
theorem getItem_tuple_step {t sl : Addr} {items : Array Value} {vl vu vs : Value} {lo hi : Option Int} {c : Int} {Q : Value → Shared → Prop} (ht : IsTup s.heap t items) (hs : s.heap.IsSliceOf sl vl vu vs) (pl : IsPart vl lo) (pu : IsPart vu hi) (ps : IsPart vs (some c)) (h0 : c ≠ 0) (h1 : c ≠ 1)
    (hsz : (pick items.toList (ixs lo hi c items.size)).length ≤ sizeLine)
    (h : Q (.ref s.heap.objs.size) { s with heap := s.heap.push { cls := .type "tuple", data := .seq (pick items.toList (ixs lo hi c items.size)).toArray } }) : wpAny (model prog w) A (getItem (.ref t) (.ref sl)) Q E s := by
  obtain ⟨os, hos, hcs, hds⟩ := id hs
  have hTs : s.TypeIs (.ref sl) "slice" := ⟨os, hos, hcs⟩
  unfold getItem
  try with_reducible refine wpAny_holding ?_
  first | refine wpAny_bind (wpAny_pure ?_) | skip
  refine wpAny_bind (wpAny_sequenceKey ht.typeIs (by decide) ?_)
  refine wpAny_bind (wpAny_callSpecial?_slot (name := Str.ofString "__getitem__") ht.typeIs PyProof.Rows.slot_tuple_getitem
    (wpAny_call_entry PyProof.Rows.slot_tuple_getitem ht.typeIs PyProof.Rows.entry_tuple_getitem ?_ (PyProof.Rows.args_tuple_getitem _ _)))
  show wpAny _ _ (Builtin.Tuple.tupleItemsOf (.ref t) >>= _) _ _ s
  refine wpAny_bind (tupleItemsOf_ ht ?_)
  refine wpAny_bind (wpAny_typeOf hTs ?_)
  rw [if_pos (by decide)]
  refine wpAny_bind (slice_applied (n := items.size) hs pl pu ps h0 ?_)
  dsimp only
  rw [if_neg (by simp [h1]), pick_arr]
  have hz : sizeOk (.seq (pick items.toList (ixs lo hi c items.size)).toArray) := by
    show (pick items.toList (ixs lo hi c items.size)).toArray.size ≤ sizeLine
    rw [List.size_toArray]; exact hsz
  first
    | exact wpAny_bind (m := Builtin.Tuple.tupleExact _) (wpAny_newObj_type (wpAny_pure ⟨_, rfl, wpAny_pure h⟩) hz)
    | exact wpAny_bind (m := Builtin.Tuple.tupleExact _) (wpAny_newObj_type (wpAny_bind (wpAny_pure (wpAny_pure ⟨_, rfl, wpAny_pure h⟩))) hz)
    | exact wpAny_bind (wpAny_bind (m := Builtin.Tuple.tupleExact _) (wpAny_newObj_type (wpAny_pure (wpAny_pure ⟨_, rfl, wpAny_pure h⟩)) hz))
    | exact wpAny_bind (wpAny_bind (m := Builtin.Tuple.tupleExact _) (wpAny_newObj_type (wpAny_pure ⟨_, rfl, wpAny_pure h⟩) hz))
end
/-- x[lo:hi:c] -/
def rSl3 (K : PySem.W.Frag) : V → Option Int → Option Int → Option Int → Hp → VK → Prop := fun x lo hi st H Q => ∃ (a : Addr) (c : Int), x = .ref a ∧ st = some c ∧ c ≠ 0 ∧
  ((∃ xs, SqL K H a xs ∧ ∀ p, H p = none → Q (.ref p) (upd H p (.lst (pick xs (ixsL lo hi c xs.length))))) ∨ (∃ xs, c ≠ 1 ∧ (pick xs (ixs lo hi c xs.length)).length ≤ sizeLine ∧ SqT K H a xs ∧ ∀ p, H p = none → Q (.ref p) (upd H p (.tup (pick xs (ixs lo hi c xs.length))))))
def tSl3 (r : V → Option Int → Option Int → Option Int → Hp → VK → Prop) (te : TE) (tl th ts : TO) : TE := fun σ H Q => te σ H fun x H1 => tl σ H1 fun l H2 => th σ H2 fun u H3 => ts σ H3 fun c H4 => r x l u c H4 Q
theorem pe_slice3 {X : Cx} {e st : Expr} {te : TE} {lo hi : Option Expr} {tl th ts : TO} {pos p2 : Pos} (he : PE X e te) (hl : PO X lo tl) (hu : PO X hi th) (hs : PO X (some st) ts) : PE X (.Subscript e (.Slice lo hi (some st) p2) pos) (tSl3 (rSl3 X.K) te tl th ts) := by
  refine ⟨fun pins s σ H Q I h => ?_⟩
  refine Subscript_ (thn (he.run pins s σ H _ I h) fun v s1 ⟨x, H1, I1, r1, q1⟩ => ?_)
  refine wpAny_Slice (thn (hl.run pins s1 σ H1 _ I1 q1) fun vl s2 ⟨l, H2, I2, pl, q2⟩ => thn (hu.run pins s2 σ H2 _ I2 q2) fun vu s3 ⟨u, H3, I3, pu, q3⟩ => thn (hs.run pins s3 σ H3 _ I3 q3) fun vs s4 ⟨o, H4, I4, ps, q4⟩ => ?_)
  have I5 : Inv X pins σ H4 { s4 with heap := s4.heap.push { cls := .type "slice", data := .fields #[vl, vu, vs] } } := I4.kept (t' := s4.toks) fun b ob q => Heap.get?_push_of_some _ q
  obtain ⟨a, c, rfl, rfl, c0, q⟩ := q4
  cases r1
  show wpAny (model X.prog X.w) X.A (subscriptTail e (.Slice lo hi (some st) p2) (.ref a) (.ref s4.heap.objs.size)) (EP X pins σ Q) X.xe { s4 with heap := s4.heap.push { cls := .type "slice", data := .fields #[vl, vu, vs] } }
  rcases q with ⟨xs, hx, q⟩ | ⟨xs, c1, hz2, hx, q⟩
  · obtain ⟨its, r, ht, hz⟩ := I5.list hx
    have hlen := r.length
    refine tail_any (ops := [.ref a, .ref s4.heap.objs.size]) ht.isList.typeIs (PySem.slot_list_getitem.lookup) ?_ (by with_unfolding_all rfl)
    refine wpAny_getItem_list_slice ht.isList (Heap.IsSliceOf.new _ vl vu vs) pl pu ps (by simpa using c0) ?_ (by rw [List.size_toArray]; omega)
    have e : slicePick its.toArray l u (some c) = (pick its (ixsL l u c xs.length)).toArray := by
      unfold slicePick pick ixsL
      rw [List.size_toArray, hlen]
      congr 1
      refine congrArg (fun f => List.filterMap f _) (funext fun m => ?_)
      simp
    rw [e]
    refine ⟨.ref _, _, I5.laid (t' := s4.toks) (o := .lst (pick xs (ixsL l u c xs.length))) (fun b ob q => Heap.get?_push_of_some _ q) (Nat.le_refl _) ?_, rfl, q _ (I5.hok.fresh (Nat.le_refl _))⟩
    refine ⟨?_, _, 0, pick_vals r _, Heap.get?_push_size _ rfl⟩
    have := slicePick_size_le its.toArray l u (some c)
    rw [e, List.size_toArray, List.size_toArray] at this
    rw [(pick_vals r _).length]
    omega
  · obtain ⟨its, r, ht, hz⟩ := I5.tuple hx
    have hlen : its.toArray.size = xs.length := by rw [List.size_toArray]; exact r.length.symm
    refine tail_any (ops := [.ref a, .ref s4.heap.objs.size]) ht.typeIs (PyProof.Rows.slot_tuple_getitem.lookup) ?_ (by with_unfolding_all rfl)
    have e : ixs l u c its.toArray.size = ixs l u c xs.length := by rw [hlen]
    refine getItem_tuple_step ht (Heap.IsSliceOf.new _ vl vu vs) pl pu ps c0 c1 (by rw [e, ← (pick_vals r _).length]; exact hz2) ?_
    rw [e]
    refine ⟨.ref _, _, I5.laid (t' := s4.toks) (o := .tup (pick xs (ixs l u c xs.length))) (fun b ob q => Heap.get?_push_of_some _ q) (Nat.le_refl _) ?_, rfl, q _ (I5.hok.fresh (Nat.le_refl _))⟩
    exact ⟨hz2, _, pick_vals r _, IsTup.new _ _⟩
def sl3D (x : D) (lo hi st : Option Int) (Q : D → Prop) : Prop := match st with
  | none => False
  | some c => c ≠ 0 ∧ (match x with
    | .lst ds => Q (.lst (pick ds (ixsL lo hi c ds.length)))
    | .tup ds => c ≠ 1 ∧ (pick ds (ixs lo hi c ds.length)).length ≤ sizeLine ∧ Q (.tup (pick ds (ixs lo hi c ds.length)))
    | _ => False)
def dSl3 (t : DE) (l h c : DO) : DE := fun ρ Q => t ρ fun x => l ρ fun lo => h ρ fun hi => c ρ fun st => sl3D x lo hi st Q
theorem pd_slice3 {X : Cx} {e st : Expr} {t : DE} {lo hi : Option Expr} {l h c : DO} {pos p2 : Pos} (he : PD X e t) (hl : PDO X lo l) (hh : PDO X hi h) (hs : PDO X (some st) c) : PD X (.Subscript e (.Slice lo hi (some st) p2) pos) (dSl3 t l h c) := (pe_slice3 he hl hh hs).impD fun σ H Q ⟨ρ, F, Q0, s, en, ht, k⟩ =>
  ⟨ρ, F, _, s, en, ht, fun v H1 F1 d x1 r q => ⟨ρ, F1, _, x1.sub, en.mono x1, q, fun o H2 F2 x2 q2 => ⟨ρ, F2, _, x2.sub, en.mono (x1.trans x2), q2, fun o' H3 F3 x3 q3 => ⟨ρ, F3, _, x3.sub, en.mono ((x1.trans x2).trans x3), q3, fun o'' H4 F4 x4 q4 => by
    have r4 := r.mono ((x2.mono.trans x3.mono).trans x4.mono)
    have xx := ((x1.trans x2).trans x3).trans x4
    cases o'' with
    | none => exact q4.elim
    | some c0 =>
      obtain ⟨c1, q4⟩ := q4
      cases r4 <;> first | exact q4.elim | skip
      · rename_i a xs ds h ra
        refine ⟨_, c0, rfl, rfl, c1, .inr ⟨_, q4.1, ?_, x4.sub.seqT h, fun p hp => ?_⟩⟩
        · rw [ra.length, (pick_rp ra _).length]; exact q4.2.1
        · have x5 := Ext.newT (xs := pick xs (ixs o o' c0 xs.length)) x4.sub hp
          refine k _ _ _ _ (xx.trans x5) (.tup (.inl (.inl upd_same)) ((pick_rp ra _).mono x5.mono)) ?_
          rw [ra.length]; exact q4.2.2
      · rename_i a xs ds h ra
        refine ⟨_, c0, rfl, rfl, c1, .inl ⟨_, .of (x4.sub.lst h), fun p hp => ?_⟩⟩
        have x5 := Ext.newL (xs := pick xs (ixsL o o' c0 xs.length)) x4.sub hp
        refine k _ _ _ _ (xx.trans x5) (.lst upd_same ((pick_rp ra _).mono x5.mono)) ?_
        rw [ra.length]; exact q4⟩⟩⟩⟩
end DV

namespace DV
open PySem PySem.Spec PyProof.Rows L2 PySem.SeqAt
open AutoSeq1 (wpAny_loadPart')
open MeetsSeq MeetsSeq2 MeetsSeq3 SeqRoads2

/-! ### the order of nested keys -/
abbrev Tk := Int ⊕ List Nat
abbrev lexT (a b : List Tk) : Bool := PyProof.Rows.lexLt itemOrd a b
theorem lexT_one (p q : Tk) : lexT [p] [q] = itemLt p q := W.lex_one p q
mutual
def tkN : NestedKey → List Tk
  | .none => [.inl 0]
  | .num i => [.inl i]
  | .text x => [.inr x.cps.toList]
  | .tup ks => tksN ks
def tksN : List NestedKey → List Tk
  | [] => [.inl 0]
  | k :: ks => .inl 1 :: (tkN k ++ tksN ks)
end
def ltN (x y : NestedKey) : Bool := lexT (tkN x) (tkN y)
mutual
/-- x < y may be asked -/
def LOk : NestedKey → NestedKey → Prop
  | .num _, .num _ => True
  | .text _, .text _ => True
  | .tup a, .tup b => LOks a b
  | _, _ => False
def LOks : List NestedKey → List NestedKey → Prop
  | x :: xs, y :: ys => (x = y → LOks xs ys) ∧ (x ≠ y → LOk x y)
  | _, _ => True
end
theorem lexT_app {x y : Tk} (h : x ≠ y) (l m : List Tk) : lexT (x :: l) (y :: m) = lexT [x] [y] := W.lex_atom h l m
mutual
theorem ltN_app : ∀ (x y : NestedKey), LOk x y → x ≠ y → ∀ l m, lexT (tkN x ++ l) (tkN y ++ m) = lexT (tkN x) (tkN y)
  | .num i, .num j, _, n, l, m => by
    simp only [tkN, List.cons_append, List.nil_append]
    exact lexT_app (fun z => n (by injection z with z; rw [z])) _ _
  | .text a, .text b, _, n, l, m => by
    simp only [tkN, List.cons_append, List.nil_append]
    exact lexT_app (fun z => n (by injection z with z; rw [W.str_of_cps z])) _ _
  | .tup a, .tup b, h, n, l, m => by
    simp only [tkN]
    simp only [LOk] at h
    exact ltNs_app a b h (fun z => n (by rw [z])) l m
  | .none, _, h, _, _, _ => by simp [LOk] at h
  | .num _, .none, h, _, _, _ => by simp [LOk] at h
  | .num _, .text _, h, _, _, _ => by simp [LOk] at h
  | .num _, .tup _, h, _, _, _ => by simp [LOk] at h
  | .text _, .none, h, _, _, _ => by simp [LOk] at h
  | .text _, .num _, h, _, _, _ => by simp [LOk] at h
  | .text _, .tup _, h, _, _, _ => by simp [LOk] at h
  | .tup _, .none, h, _, _, _ => by simp [LOk] at h
  | .tup _, .num _, h, _, _, _ => by simp [LOk] at h
  | .tup _, .text _, h, _, _, _ => by simp [LOk] at h
theorem ltNs_app : ∀ (xs ys : List NestedKey), LOks xs ys → xs ≠ ys → ∀ l m, lexT (tksN xs ++ l) (tksN ys ++ m) = lexT (tksN xs) (tksN ys)
  | [], [], _, n, _, _ => absurd rfl n
  | [], y :: ys, _, _, l, m => by
    simp only [tksN, List.cons_append, List.nil_append]
    exact (lexT_app (fun z => by cases z) _ _).trans (lexT_app (fun z => by cases z) _ _).symm
  | x :: xs, [], _, _, l, m => by
    simp only [tksN, List.cons_append, List.nil_append]
    exact (lexT_app (fun z => by cases z) _ _).trans (lexT_app (fun z => by cases z) _ _).symm
  | x :: xs, y :: ys, h, n, l, m => by
    simp only [LOks] at h
    simp only [tksN, List.cons_append, List.append_assoc]
    by_cases e : x = y
    · subst e
      have e1 := W.lex_pre (Sum.inl 1 :: tkN x) (tksN xs ++ l) (tksN ys ++ m)
      have e2 := W.lex_pre (Sum.inl 1 :: tkN x) (tksN xs) (tksN ys)
      rw [List.cons_append] at e1 e2
      rw [List.cons_append] at e1 e2
      exact e1.trans ((ltNs_app xs ys (h.1 rfl) (fun z => n (by rw [z])) l m).trans e2.symm)
    · have k := h.2 e
      have e1 := W.lex_pre [Sum.inl 1] (tkN x ++ (tksN xs ++ l)) (tkN y ++ (tksN ys ++ m))
      have e2 := W.lex_pre [Sum.inl 1] (tkN x ++ tksN xs) (tkN y ++ tksN ys)
      simp only [List.cons_append, List.nil_append] at e1 e2
      exact e1.trans ((ltN_app x y k e _ _).trans ((ltN_app x y k e _ _).symm.trans e2.symm))
end
theorem ltNs_nn : lexT (tksN []) (tksN []) = false := lex_irrefl (O := itemOrd) _
theorem ltNs_nc {y : NestedKey} {ys : List NestedKey} : lexT (tksN []) (tksN (y :: ys)) = true := by
  simp only [tksN]
  rw [lexT_app (fun z => by cases z)]
  rw [lexT_one]
  rfl
theorem ltNs_cn {y : NestedKey} {ys : List NestedKey} : lexT (tksN (y :: ys)) (tksN []) = false := by
  simp only [tksN]
  rw [lexT_app (fun z => by cases z)]
  rw [lexT_one]
  rfl
theorem ltNs_eq {x : NestedKey} {xs ys : List NestedKey} : lexT (tksN (x :: xs)) (tksN (x :: ys)) = lexT (tksN xs) (tksN ys) := by
  have e2 := W.lex_pre (Sum.inl 1 :: tkN x) (tksN xs) (tksN ys)
  rw [List.cons_append, List.cons_append] at e2
  simp only [tksN]
  exact e2
theorem ltNs_ne {x y : NestedKey} {xs ys : List NestedKey} (h : LOk x y) (n : x ≠ y) : lexT (tksN (x :: xs)) (tksN (y :: ys)) = ltN x y := by
  have e2 := W.lex_pre [Sum.inl 1] (tkN x ++ tksN xs) (tkN y ++ tksN ys)
  simp only [List.cons_append, List.nil_append] at e2
  simp only [tksN]
  exact e2.trans (ltN_app x y h n _ _)
theorem ltN_num {i j : Int} : ltN (.num i) (.num j) = decide (i < j) := by
  unfold ltN
  simp only [tkN]
  rw [lexT_one]; rfl
theorem ltN_text {x y : Str} : ltN (.text x) (.text y) = decide (x.cps.toList < y.cps.toList) := by
  have := W.dataLt_str x y
  unfold W.dataLt at this
  simp only [W.keyToks] at this
  unfold ltN
  simp only [tkN]
  exact this
theorem ltN_tup {xs ys : List NestedKey} : ltN (.tup xs) (.tup ys) = lexT (tksN xs) (tksN ys) := by
  unfold ltN
  simp only [tkN]

/-! values -/
mutual
inductive Sv (h : Heap) : NestedKey → Value → Prop
  | num (i t) : Sv h (.num i) (.int i t)
  | text (x t) : Sv h (.text x) (.str x t)
  | tup {a o vs n ks} : h.get? a = some o → o.cls = .type "tuple" → o.data = .seq vs n → Svs h ks vs.toList → Sv h (.tup ks) (.ref a)
inductive Svs (h : Heap) : List NestedKey → List Value → Prop
  | nil : Svs h [] []
  | cons {k v ks vs} : Sv h k v → Svs h ks vs → Svs h (k :: ks) (v :: vs)
end
mutual
theorem Sv.nested {h : Heap} : ∀ {k : NestedKey} {v : Value}, Sv h k v → NestedIs h k v
  | _, _, .num i t => .int i t
  | _, _, .text x t => .text x t
  | _, _, .tup h1 h2 h3 h4 => .tup h1 h2 h3 (Svs.nested h4)
theorem Svs.nested {h : Heap} : ∀ {k : List NestedKey} {v : List Value}, Svs h k v → NestedAll h k v
  | _, _, .nil => .nil
  | _, _, .cons a b => .cons (Sv.nested a) (Svs.nested b)
end
mutual
theorem Sv.at' {h h' : Heap} (k : ∀ b o, h.get? b = some o → o.cls = .type "tuple" → h'.get? b = some o) : ∀ {x : NestedKey} {v : Value}, Sv h x v → Sv h' x v
  | _, _, .num i t => .num i t
  | _, _, .text x t => .text x t
  | _, _, .tup h1 h2 h3 h4 => .tup (k _ _ h1 h2) h2 h3 (Svs.at' k h4)
theorem Svs.at' {h h' : Heap} (k : ∀ b o, h.get? b = some o → o.cls = .type "tuple" → h'.get? b = some o) : ∀ {x : List NestedKey} {v : List Value}, Svs h x v → Svs h' x v
  | _, _, .nil => .nil
  | _, _, .cons a b => .cons (Sv.at' k a) (Svs.at' k b)
end
/-- two rows of values, compared from the left: the first that differ decide -/
inductive Lx (A : Around) (s : Shared) : List Value → List Value → Bool → Prop
  | nn : Lx A s [] [] false
  | nc {y ys} : Lx A s [] (y :: ys) true
  | cn {x xs} : Lx A s (x :: xs) [] false
  | eq {x y xs ys k} : EqAt A s x y true → Lx A s xs ys k → Lx A s (x :: xs) (y :: ys) k
  | ne {x y xs ys k} : EqAt A s x y false → RcLt A s x y k → Lx A s (x :: xs) (y :: ys) k
theorem tuple_ltL (l b : Addr) (xs ys : Array Value) (n n2 : Nat) (dd dd2 : Option Addr) (sl sl2 : Array (Option Value)) (k : Bool) :
    Meets (Builtin.«tuple.__lt__» ⟨[.ref l, .ref b], []⟩)
      (fun A R s => s.heap.get? l = some { cls := .type "tuple", dict := dd, data := .seq xs n, slots := sl } ∧ s.heap.get? b = some { cls := .type "tuple", dict := dd2, data := .seq ys n2, slots := sl2 } ∧
        Lx A.in1 s xs.toList ys.toList k ∧ R (.ok (.ret (.bool k))) s) :=
  .of_wp fun prog w A R s h => by
    obtain ⟨hp, g, d, tk, os⟩ := s
    obtain ⟨hl, hb, hx, h⟩ := h
    have f2 := AutoSeq1.sub_tuple_tuple
    wp_walk using wpAny_loadPart' hl, wpAny_loadPart' hb, wpAny_forIn_list _ (fun rest b s' => b.1 = none ∧ s' = ⟨hp, g, d, tk, os⟩ ∧ ∃ p q, rest = List.zip p q ∧ xs.toList.length + q.length = ys.toList.length + p.length ∧ Lx A.in1 ⟨hp, g, d, tk, os⟩ p q k) _
    case turn =>
      rintro ⟨y, x⟩ rest b s' ⟨hb', rfl, p, q, hz, hc, hL⟩
      cases hL with
      | nn => cases hz
      | nc => cases hz
      | cn => cases hz
      | eq e1 e2 =>
        rw [List.zip_cons_cons] at hz
        injection hz with hz1 hz2
        cases hz1
        refine wpAny_bind (e1 prog w _ _ ?_)
        wp_walk
        exact ⟨rfl, rfl, _, _, hz2, by simp only [List.length_cons] at hc; omega, e2⟩
      | ne e1 e2 =>
        rw [List.zip_cons_cons] at hz
        injection hz with hz1 hz2
        cases hz1
        refine wpAny_bind (e1 prog w _ _ ?_)
        rw [if_pos (by rfl)]
        refine wpAny_bind (wpAny_rule ?_)
        refine wpAny_bind (e2 prog w _ _ ?_)
        wp_walk
        exact ⟨_, rfl, h⟩
    case fin =>
      rintro ⟨b1, b2⟩ s' ⟨hb', rfl, p, q, hz, hc, hL⟩
      simp only at hb'
      subst hb'
      have fin : k = decide (xs.size < ys.size) := by
        cases hL with
        | nn =>
          simp only [List.length_nil, Array.length_toList] at hc
          exact (decide_eq_false (by omega)).symm
        | nc =>
          simp only [List.length_nil, List.length_cons, Array.length_toList] at hc
          exact (decide_eq_true (by omega)).symm
        | cn =>
          simp only [List.length_nil, List.length_cons, Array.length_toList] at hc
          exact (decide_eq_false (by omega)).symm
        | eq e1 e2 => cases hz
        | ne e1 e2 => cases hz
      rw [fin] at h
      wp_walk
      exact ⟨_, rfl, by simpa [Builtin.Tuple.tupleCompareSizes] using h⟩
    case h =>
      exact ⟨rfl, rfl, _, _, rfl, by omega, hx⟩
theorem RcLt.tuplesL {A : Around} {s : Shared} {l b : Addr} {xs ys : Array Value} {k : Bool} (hl : s.heap.IsTuple l xs) (hb : s.heap.IsTuple b ys) (hu : A.units < cLine) (hx : Lx A.in1 s xs.toList ys.toList k) : RcLt A s (.ref l) (.ref b) k := fun prog w E Q h => by
  obtain ⟨⟨cls, dd, data, sl⟩, ho, hc, n, hd⟩ := id hl
  obtain ⟨⟨cls2, dd2, data2, sl2⟩, ho2, hc2, n2, hd2⟩ := id hb
  simp only at hc hd hc2 hd2
  subst hc hd hc2 hd2
  exact richCompare_meets_room (op := .Lt) ⟨_, ho, rfl⟩ ⟨_, ho2, rfl⟩ F.slot_tuple_lt F.entry_tuple_lt (F.args_tuple_lt_2 _ _) (tuple_ltL l b xs ys n n2 dd dd2 sl sl2 k)
    ⟨ho, ho2, hx, show Value.bool k ≠ Value.notImplemented ∧ Q (.bool k) s from ⟨(fun x => nomatch x), h⟩⟩ hu
end DV

namespace DV
open PySem PySem.Spec PyProof.Rows L2 PySem.SeqAt

/-! ### < on values -/
mutual
theorem rcLt_n : ∀ (x y : NestedKey) (A : Around) (s : Shared) (a b : Value), Sv s.heap x a → Sv s.heap y b → LOk x y → A.units + min x.depth y.depth < cLine → RcLt A s a b (ltN x y)
  | .num i, .num j, A, s, _, _, .num _ t, .num _ u, _, _ => fun prog w E Q h => by
    rw [ltN_num] at h
    exact lt_int h
  | .text x, .text y, A, s, _, _, .text _ t, .text _ u, _, _ => fun prog w E Q h => by
    rw [ltN_text] at h
    exact lt_str h
  | .tup xs, .tup ys, A, s, _, _, .tup h1 h2 h3 h4, .tup k1 k2 k3 k4, h, hu => by
    simp only [LOk] at h
    rw [ltN_tup]
    exact RcLt.tuplesL ⟨_, h1, h2, _, h3⟩ ⟨_, k1, k2, _, k3⟩ (room_here hu) (lx_n xs ys A.in1 s _ _ h4 k4 h (by simp only [NestedKey.depth, Around.in1_units] at hu ⊢; omega))
  | .none, _, _, _, _, _, _, _, h, _ => by simp [LOk] at h
  | .num _, .none, _, _, _, _, _, _, h, _ => by simp [LOk] at h
  | .num _, .text _, _, _, _, _, _, _, h, _ => by simp [LOk] at h
  | .num _, .tup _, _, _, _, _, _, _, h, _ => by simp [LOk] at h
  | .text _, .none, _, _, _, _, _, _, h, _ => by simp [LOk] at h
  | .text _, .num _, _, _, _, _, _, _, h, _ => by simp [LOk] at h
  | .text _, .tup _, _, _, _, _, _, _, h, _ => by simp [LOk] at h
  | .tup _, .none, _, _, _, _, _, _, h, _ => by simp [LOk] at h
  | .tup _, .num _, _, _, _, _, _, _, h, _ => by simp [LOk] at h
  | .tup _, .text _, _, _, _, _, _, _, h, _ => by simp [LOk] at h
theorem lx_n : ∀ (xs ys : List NestedKey) (A : Around) (s : Shared) (vs ws : List Value), Svs s.heap xs vs → Svs s.heap ys ws → LOks xs ys → A.units + min (NestedKey.depthAll xs) (NestedKey.depthAll ys) < cLine → Lx A s vs ws (lexT (tksN xs) (tksN ys))
  | [], [], A, s, _, _, .nil, .nil, _, _ => by rw [ltNs_nn]; exact .nn
  | [], y :: ys, A, s, _, _, .nil, .cons _ _, _, _ => by rw [ltNs_nc]; exact .nc
  | x :: xs, [], A, s, _, _, .cons _ _, .nil, _, _ => by rw [ltNs_cn]; exact .cn
  | x :: xs, y :: ys, A, s, _, _, .cons a1 a2, .cons b1 b2, h, hu => by
    simp only [LOks] at h
    simp only [NestedKey.depthAll] at hu
    have e := eqAt_key x y A s _ _ a1.nested b1.nested (by omega)
    rw [← NestedKey.decide_eq] at e
    by_cases z : x = y
    · rw [decide_eq_true z] at e
      have k := lx_n xs ys A s _ _ a2 b2 (h.1 z) (by omega)
      subst z
      rw [ltNs_eq]
      exact .eq e k
    · rw [decide_eq_false z] at e
      rw [ltNs_ne (h.2 z) z]
      exact .ne e (rcLt_n x y A s _ _ a1 b1 (h.2 z) (by omega))
end
/-- the first items are of one plain type -/
def flatK : NestedKey → Bool
  | .num _ => true
  | .text _ => true
  | _ => false
section
variable {prog : Program} {w : World} {A : Around} {E : Value → Shared → Prop} {s : Shared}
theorem oneLt_n {b : Bool} {x y : NestedKey} {p q : Value} {Q : Bool → Shared → Prop} (hb : b = true → flatK x = true) (hx : Sv s.heap x p) (hy : Sv s.heap y q) (h : LOk x y) (hu : A.units + min x.depth y.depth < cLine) (hQ : Q (ltN x y) s) : wpAny (model prog w) A (oneLt' b p q) Q E s := by
  cases b with
  | false => exact W.kat_one _ _ (rcLt_n x y A s p q hx hy h hu prog w _ _ hQ)
  | true =>
    have f := hb rfl
    cases hx with
    | num i t =>
      cases hy with
      | num j u => rw [ltN_num] at hQ; exact oneLt_int hQ
      | text _ _ => simp [LOk] at h
      | tup _ _ _ _ => simp [LOk] at h
    | text i t =>
      cases hy with
      | text j u => rw [ltN_text] at hQ; exact PyProof.Rows.oneLt_str hQ
      | num _ _ => simp [LOk] at h
      | tup _ _ _ _ => simp [LOk] at h
    | tup _ _ _ _ => simp [flatK] at f
theorem katL_n {b fin : Bool} {Q : Bool → Shared → Prop} : ∀ (xs ys : List NestedKey) (vs ws : List Value) (i : Nat), Svs s.heap xs vs → Svs s.heap ys ws → LOks xs ys → A.units + min (NestedKey.depthAll xs) (NestedKey.depthAll ys) < cLine →
    (i = 0 → b = true → ∀ x r, xs = x :: r → flatK x = true) → fin = decide (vs.length < ws.length) → Q (lexT (tksN xs) (tksN ys)) s → W.KatLex prog w A b fin Q (vs.zip ws) i s
  | [], [], _, _, i, .nil, .nil, _, _, _, hf, hQ => by
    rw [ltNs_nn] at hQ
    subst hf
    exact W.kat_nil (by simpa using hQ)
  | [], y :: ys, _, _, i, .nil, .cons _ _, _, _, _, hf, hQ => by
    rw [ltNs_nc] at hQ
    subst hf
    exact W.kat_nil (by simpa using hQ)
  | x :: xs, [], _, _, i, .cons _ _, .nil, _, _, _, hf, hQ => by
    rw [ltNs_cn] at hQ
    subst hf
    exact W.kat_nil (by simpa using hQ)
  | x :: xs, y :: ys, _, _, i, .cons (v := v) (vs := vs) a1 a2, .cons (v := v2) (vs := vs2) b1 b2, h, hu, hb, hf, hQ => by
    simp only [LOks] at h
    simp only [NestedKey.depthAll] at hu
    have e := eqAt_key x y A s _ _ a1.nested b1.nested (by omega)
    rw [← NestedKey.decide_eq] at e
    rw [List.zip_cons_cons]
    refine W.kat_cons (e prog w _ _ ?_)
    by_cases z : x = y
    · rw [decide_eq_true z]
      refine W.kat_yes ?_
      have k := h.1 z
      subst z
      rw [ltNs_eq] at hQ
      exact katL_n xs ys _ _ (i + 1) a2 b2 k (by omega) (fun z => absurd z (by omega)) (by rw [hf]; simp) hQ
    · rw [decide_eq_false z]
      rw [ltNs_ne (h.2 z) z] at hQ
      refine W.kat_no (oneLt_n (fun hb' => ?_) a1 b1 (h.2 z) (by omega) hQ)
      simp only [Bool.and_eq_true, beq_iff_eq] at hb'
      exact hb hb'.2 hb'.1 x xs rfl
end

/-! ### sorting -/
theorem ltN_swo {α : Type} (f : α → NestedKey) : SrtO.Swo fun u v => ltN (f u) (f v) := by
  refine ⟨fun x y h => ?_, fun x y z h1 h2 => ?_⟩
  · cases e : ltN (f y) (f x) with
    | false => rfl
    | true =>
      have := lex_trans (O := itemOrd) _ _ _ h e
      rw [lex_irrefl] at this
      cases this
  · cases e : ltN (f z) (f x) with
    | false => rfl
    | true =>
      rcases lex_negTrans (O := itemOrd) _ (tkN (f y)) _ e with k | k
      · have : ltN (f z) (f y) = true := k
        rw [h2] at this; cases this
      · have : ltN (f y) (f x) = true := k
        rw [h1] at this; cases this
open Classical in
/-- the key that a value is -/
noncomputable def keyAt (h : Heap) (v : Value) : NestedKey := if z : ∃ k, Sv h k v then z.choose else .none
theorem keyAt_of {h : Heap} {k : NestedKey} {v : Value} (x : Sv h k v) : keyAt h v = k := by
  have z : ∃ k, Sv h k v := ⟨k, x⟩
  unfold keyAt
  rw [dif_pos z]
  exact NestedIs.inj _ _ v z.choose_spec.nested x.nested
/-- what may be sorted: one kind of things, each two comparable -/
def kindN : NestedKey → Option Nat
  | .num _ => some 0
  | .text _ => some 1
  | .tup (.num _ :: _) => some 2
  | .tup (.text _ :: _) => some 3
  | .tup (.tup _ :: _) => some 4
  | _ => none
structure SrtN (ks : List NestedKey) : Prop where
  kind : ∃ n, ∀ k ∈ ks, kindN k = some n
  ok : ∀ k ∈ ks, ∀ j ∈ ks, LOk k j
  deep : ∀ k ∈ ks, k.depth ≤ 8
theorem svs_mem {h : Heap} : ∀ {ks : List NestedKey} {vs : List Value}, Svs h ks vs → ∀ v ∈ vs, ∃ k ∈ ks, Sv h k v
  | _, _, .nil, v, hv => nomatch hv
  | _, _, .cons a t, v, hv => by
    rcases List.mem_cons.mp hv with rfl | hv
    · exact ⟨_, List.mem_cons_self, a⟩
    · obtain ⟨k, hk, z⟩ := svs_mem t v hv
      exact ⟨k, List.mem_cons_of_mem _ hk, z⟩
theorem svs_len {h : Heap} : ∀ {ks : List NestedKey} {vs : List Value}, Svs h ks vs → ks.length = vs.length
  | _, _, .nil => rfl
  | _, _, .cons a t => congrArg (· + 1) (svs_len t)
theorem svs_ints {h : Heap} : ∀ {ks : List NestedKey} {vs : List Value}, Svs h ks vs → (∀ k ∈ ks, kindN k = some 0) → ∃ ns, IntsAre vs ns
  | _, _, .nil, _ => ⟨[], .nil⟩
  | _, _, .cons a t, g => by
    obtain ⟨ns, r⟩ := svs_ints t fun k hk => g k (List.mem_cons_of_mem _ hk)
    have := g _ List.mem_cons_self
    cases a with
    | num i t => exact ⟨i :: ns, .cons i t r⟩
    | text _ _ => simp [kindN] at this
    | @tup _ _ _ _ ks _ _ _ _ =>
      cases ks with
      | nil => simp [kindN] at this
      | cons k ks => cases k <;> simp [kindN] at this
theorem svs_strs {h : Heap} : ∀ {ks : List NestedKey} {vs : List Value}, Svs h ks vs → (∀ k ∈ ks, kindN k = some 1) → ∃ ns, StrsAre vs ns
  | _, _, .nil, _ => ⟨[], .nil⟩
  | _, _, .cons a t, g => by
    obtain ⟨ns, r⟩ := svs_strs t fun k hk => g k (List.mem_cons_of_mem _ hk)
    have := g _ List.mem_cons_self
    cases a with
    | text i t => exact ⟨i :: ns, .cons i t r⟩
    | num _ _ => simp [kindN] at this
    | @tup _ _ _ _ ks _ _ _ _ =>
      cases ks with
      | nil => simp [kindN] at this
      | cons k ks => cases k <;> simp [kindN] at this
/-- the first items -/
theorem svs_firsts {h : Heap} {n : Nat} (hn : 2 ≤ n) : ∀ {ks : List NestedKey} {vs : List Value}, Svs h ks vs → (∀ k ∈ ks, kindN k = some n) → ∃ fs, W.KatTups h vs fs ∧ fs.length = vs.length ∧ ∀ f ∈ fs, ∃ k, Sv h k f ∧ ∃ r, kindN (.tup (k :: r)) = some n
  | _, _, .nil, _ => ⟨[], W.KatTups.nil, rfl, fun _ z => nomatch z⟩
  | _, _, .cons a t, g => by
    obtain ⟨fs, k1, k2, k3⟩ := svs_firsts hn t fun k hk => g k (List.mem_cons_of_mem _ hk)
    have g0 := g _ List.mem_cons_self
    cases a with
    | text i t => simp only [kindN, Option.some.injEq] at g0; omega
    | num i t => simp only [kindN, Option.some.injEq] at g0; omega
    | @tup a o vs m ks h1 h2 h3 h4 =>
      generalize hl : vs.toList = l at h4
      cases h4 with
      | nil => simp [kindN] at g0
      | @cons k v ks vs' b1 b2 =>
        refine ⟨v :: fs, W.KatTups.cons h1 h2 h3 ?_ k1, by simp [k2], fun f hf => ?_⟩
        · rw [← Array.getElem?_toList, hl]; rfl
        · rcases List.mem_cons.mp hf with rfl | hf
          · exact ⟨k, b1, ks, g0⟩
          · exact k3 f hf
section
variable {prog : Program} {w : World} {A : Around} {E : Value → Shared → Prop} {s : Shared}
theorem sortable_n {f : Value → NestedKey} {a : Addr} {ks : List NestedKey} {vs : List Value} (hv : Svs s.heap ks vs) (hf : ∀ v ∈ vs, ∀ k, Sv s.heap k v → f v = k) (S : SrtN ks) (h2 : 2 ≤ vs.length) (ha : ∀ o, s.heap.get? a = some o → o.cls ≠ .type "tuple") (hu : A.units + 8 < cLine) : SrtO.SortableO prog w A s a vs fun u v => ltN (f u) (f v) := by
  intro h' keep
  have kp : ∀ b o, s.heap.get? b = some o → o.cls = .type "tuple" → h'.get? b = some o := fun b o e c => keep b o (fun z => by subst z; exact ha o e c) e
  have hv' := hv.at' kp
  obtain ⟨n, hn⟩ := S.kind
  have two : ∃ v₁ v₂ rest, vs = v₁ :: v₂ :: rest := by
    match vs, h2 with
    | v₁ :: v₂ :: rest, _ => exact ⟨v₁, v₂, rest, rfl⟩
  have cmp1 : (n = 0 ∨ n = 1) → SrtO.Cmp prog w A { s with heap := h' } oneType' (fun p => p.1 ∈ vs) (SrtO.lt2 fun u v => ltN (f u) (f v)) := fun hn01 p q hp hq => by
    obtain ⟨k, hk, z⟩ := svs_mem hv _ hp
    obtain ⟨j, hj, z'⟩ := svs_mem hv _ hq
    rw [keyLt'_oneType]
    refine oneLt_n (s := { s with heap := h' }) (x := k) (y := j) (fun _ => ?_) (z.at' kp) (z'.at' kp) (S.ok k hk j hj) ?_ ⟨rfl, ?_⟩
    · have := hn k hk
      cases k with
      | num _ => rfl
      | text _ => rfl
      | none => simp [kindN] at this
      | tup ks =>
        cases ks with
        | nil => simp [kindN] at this
        | cons x ks => rcases hn01 with rfl | rfl <;> cases x <;> simp [kindN] at this
    · have := S.deep k hk
      omega
    · show ltN k j = ltN (f p.1) (f q.1)
      rw [hf _ hp _ z, hf _ hq _ z']
  have cmpT : ∀ b : Bool, 2 ≤ n → (b = true → n ≠ 4) → SrtO.Cmp prog w A { s with heap := h' } (tuples' b) (fun p => p.1 ∈ vs) (SrtO.lt2 fun u v => ltN (f u) (f v)) := fun b hn2 hb p q hp hq => by
    obtain ⟨k, hk, z⟩ := svs_mem hv _ hp
    obtain ⟨j, hj, z'⟩ := svs_mem hv _ hq
    have e1 := hn k hk
    have e2 := hn j hj
    have ek : f p.1 = k := hf _ hp _ z
    have ej : f q.1 = j := hf _ hq _ z'
    have dk := S.deep k hk
    have ok := S.ok k hk j hj
    have y := z.at' kp
    have y' := z'.at' kp
    show wpAny (model prog w) A (keyLt' (tuples' b) p.1 q.1) (fun r s' => s' = { s with heap := h' } ∧ r = ltN (f p.1) (f q.1)) (fun _ _ => False) _
    rw [ek, ej]
    generalize p.1 = pv at y
    generalize q.1 = qv at y'
    cases y with
    | num i t => simp only [kindN, Option.some.injEq] at e1; omega
    | text i t => simp only [kindN, Option.some.injEq] at e1; omega
    | @tup a1 o1 vs1 n1 ks1 g1 g2 g3 g4 =>
      cases y' with
      | num i t => simp only [kindN, Option.some.injEq] at e2; omega
      | text i t => simp only [kindN, Option.some.injEq] at e2; omega
      | @tup a2 o2 vs2 n2 ks2 f1 f2 f3 f4 =>
        simp only [LOk] at ok
        simp only [NestedKey.depth] at dk
        refine W.kat_lt (s := { s with heap := h' }) g1 g3 f1 f3 ?_
        refine katL_n (s := { s with heap := h' }) ks1 ks2 _ _ 0 g4 f4 ok (by omega) (fun _ hb' x r e => ?_) (by simp) ⟨rfl, ltN_tup.symm⟩
        subst e
        cases x with
        | num _ => rfl
        | text _ => rfl
        | none => simp [kindN] at e1
        | tup _ => simp only [kindN, Option.some.injEq] at e1; exact absurd e1.symm (hb hb')
  by_cases n0 : n = 0
  · subst n0
    obtain ⟨ns, r⟩ := svs_ints hv' hn
    obtain ⟨v₁, v₂, rest, rfl⟩ := two
    exact ⟨oneType', fun Q E hq => by rw [keyKind_ints r]; exact wpAny_pure hq, cmp1 (.inl rfl)⟩
  by_cases n1 : n = 1
  · subst n1
    obtain ⟨ns, r⟩ := svs_strs hv' hn
    obtain ⟨v₁, v₂, rest, rfl⟩ := two
    exact ⟨oneType', fun Q E hq => by rw [keyKind_strs r]; exact wpAny_pure hq, cmp1 (.inr rfl)⟩
  have hn2 : 2 ≤ n := by omega
  obtain ⟨fs, k1, k2, k3⟩ := svs_firsts hn2 hv' hn
  have hfs : 0 < fs.length := by omega
  by_cases n4 : n = 4
  · subst n4
    refine ⟨tuples' false, fun Q E hq => ?_, cmpT false hn2 (fun z => nomatch z)⟩
    refine W.kat_kind (s := { s with heap := h' }) (T := .type "tuple") k1 hfs (fun fv hfv => ?_) rfl ?_
    · obtain ⟨k, z, r, e⟩ := k3 fv hfv
      cases z with
      | num _ _ => simp [kindN] at e
      | text _ _ => simp [kindN] at e
      | @tup a o vs m ks h1 h2 h3 h4 =>
        have z : PySem.W.Looks (model prog w) h' (typeOf (.ref a)) o.cls := (PySem.W.Looks.ld h1).andThen .now
        rw [h2] at z
        exact z
    · have hb : (Value.type "tuple" != Value.type "tuple") = false := by first | rfl | decide | simp
      rw [hb]; exact hq
  · by_cases n2 : n = 2
    · subst n2
      refine ⟨tuples' true, fun Q E hq => ?_, cmpT true hn2 (fun _ => by decide)⟩
      refine W.kat_kind (s := { s with heap := h' }) (T := .type "int") k1 hfs (fun fv hfv => ?_) rfl ?_
      · obtain ⟨k, z, r, e⟩ := k3 fv hfv
        cases z with
        | num _ _ => exact PySem.W.Looks.now
        | text _ _ => simp [kindN] at e
        | tup _ _ _ _ => simp [kindN] at e
      · have hb : (Value.type "int" != Value.type "tuple") = true := by first | decide +kernel | rfl | decide
        rw [hb]; exact hq
    · have n3 : n = 3 := by
        match ks, vs, hv, h2 with
        | k :: ks, _ :: _, _, _ =>
          have := hn k List.mem_cons_self
          cases k with
          | none => simp [kindN] at this
          | num _ => simp [kindN] at this; omega
          | text _ => simp [kindN] at this; omega
          | tup l =>
            cases l with
            | nil => simp [kindN] at this
            | cons x l => cases x <;> simp [kindN] at this <;> omega
      subst n3
      refine ⟨tuples' true, fun Q E hq => ?_, cmpT true hn2 (fun _ => by decide)⟩
      refine W.kat_kind (s := { s with heap := h' }) (T := .type "str") k1 hfs (fun fv hfv => ?_) rfl ?_
      · obtain ⟨k, z, r, e⟩ := k3 fv hfv
        cases z with
        | text _ _ => exact PySem.W.Looks.now
        | num _ _ => simp [kindN] at e
        | tup _ _ _ _ => simp [kindN] at e
      · have hb : (Value.type "str" != Value.type "tuple") = true := by first | decide +kernel | rfl | decide
        rw [hb]; exact hq
end
end DV

namespace DV
open PySem PySem.Spec PyProof.Rows L2 PySem.SeqAt

/-! ### sorted(..) on data -/
mutual
def D.nt : D → NestedKey
  | .int i => .num i
  | .str x => .text x
  | .tup ds => .tup (D.nts ds)
  | _ => .none
def D.nts : List D → List NestedKey
  | [] => []
  | d :: ds => D.nt d :: D.nts ds
end
mutual
def D.srt : D → Bool
  | .int _ => true
  | .str _ => true
  | .tup ds => D.srts ds
  | _ => false
def D.srts : List D → Bool
  | [] => true
  | d :: ds => D.srt d && D.srts ds
end
theorem nts_map : ∀ ds : List D, D.nts ds = ds.map D.nt
  | [] => by simp [D.nts]
  | d :: ds => by simp [D.nts, nts_map ds]
theorem srts_of : ∀ {ds : List D}, (∀ d ∈ ds, d.srt = true) → D.srts ds = true
  | [], _ => by simp [D.srts]
  | d :: ds, h => by
    simp only [D.srts, Bool.and_eq_true]
    exact ⟨h d List.mem_cons_self, srts_of fun x hx => h x (List.mem_cons_of_mem _ hx)⟩
structure SrtD (ds : List D) : Prop where
  ok : SrtN (ds.map D.nt)
  all : ∀ d ∈ ds, d.srt = true
section
variable {X : Cx} {pins : List (Addr × Obj)} {σ : L2.St} {F H : Hp} {s : Shared}
mutual
theorem sv_is (I : Inv X pins σ H s) (sb : Sub F H) : ∀ {d : D} {v : V} {u : Value}, d.srt = true → Rp X.K F v d → RelV v u → Sv s.heap d.nt u
  | .int i, _, u, _, .int _, e => by
    obtain ⟨t, rfl⟩ := (show ∃ t, u = Value.int i t from e)
    exact .num i t
  | .str x, _, u, _, .str _, e => by
    obtain ⟨t, rfl⟩ := (show ∃ t, u = Value.str x t from e)
    exact .text x t
  | .tup ds, _, u, h, .tup hs ra, e => by
    cases (show u = Value.ref _ from e)
    simp only [D.srt] at h
    obtain ⟨its, r, ⟨o, h1, h2, n, h3⟩, _⟩ := I.tuple (sb.seqT hs)
    exact .tup h1 h2 h3 (by simpa using svs_is I sb h ra r)
  | .non, _, _, h, _, _ => by simp [D.srt] at h
  | .bl _, _, _, h, _, _ => by simp [D.srt] at h
  | .lst _, _, _, h, _, _ => by simp [D.srt] at h
  | .dic _, _, _, h, _, _ => by simp [D.srt] at h
  | .bag, _, _, h, _, _ => by simp [D.srt] at h
  | .scr, _, _, h, _, _ => by simp [D.srt] at h
theorem svs_is (I : Inv X pins σ H s) (sb : Sub F H) : ∀ {ds : List D} {vs : List V} {us : List Value}, D.srts ds = true → RpA X.K F vs ds → Vals vs us → Svs s.heap (D.nts ds) us
  | [], _, _, _, .nil, .nil => .nil
  | d :: ds, _, _, h, .cons r ra, .cons e er => by
    simp only [D.srts, Bool.and_eq_true] at h
    exact .cons (sv_is I sb h.1 r e) (svs_is I sb h.2 ra er)
end
/-- data, values, the heap's values in one list -/
structure Tri (K : PySem.W.Frag) (F : Hp) (h : Heap) (t : D × V × Value) : Prop where
  rp : Rp K F t.2.1 t.1
  rel : RelV t.2.1 t.2.2
  sv : Sv h t.1.nt t.2.2
theorem tri_of (I : Inv X pins σ H s) (sb : Sub F H) : ∀ {ds : List D} {vs : List V} {us : List Value}, (∀ d ∈ ds, d.srt = true) → RpA X.K F vs ds → Vals vs us →
    ∃ T : List (D × V × Value), T.map (·.1) = ds ∧ T.map (·.2.1) = vs ∧ T.map (·.2.2) = us ∧ ∀ t ∈ T, Tri X.K F s.heap t
  | [], _, _, _, .nil, .nil => ⟨[], rfl, rfl, rfl, fun _ z => nomatch z⟩
  | d :: ds, _, _, h, .cons (v := v) r ra, .cons (b := u) e er => by
    obtain ⟨T, a, b, c, k⟩ := tri_of I sb (fun x hx => h x (List.mem_cons_of_mem _ hx)) ra er
    refine ⟨(d, v, u) :: T, by rw [List.map_cons, a], by rw [List.map_cons, b], by rw [List.map_cons, c], fun t ht => ?_⟩
    rcases List.mem_cons.mp ht with rfl | ht
    · exact ⟨r, e, sv_is I sb (h d List.mem_cons_self) r e⟩
    · exact k t ht
theorem rpa_of {K : PySem.W.Frag} {F : Hp} {h : Heap} : ∀ {T : List (D × V × Value)}, (∀ t ∈ T, Tri K F h t) → RpA K F (T.map (·.2.1)) (T.map (·.1)) ∧ Vals (T.map (·.2.1)) (T.map (·.2.2)) ∧ Svs h ((T.map (·.1)).map D.nt) (T.map (·.2.2))
  | [], _ => ⟨.nil, .nil, .nil⟩
  | t :: T, k => by
    obtain ⟨a, b, c⟩ := rpa_of (T := T) fun x hx => k x (List.mem_cons_of_mem _ hx)
    have z := k t List.mem_cons_self
    exact ⟨.cons z.rp a, .cons z.rel b, .cons z.sv c⟩
/-- the sorted row, as data -/
def SortTo (ds ys : List D) : Prop := ys.Perm ds ∧ ys.Pairwise fun a b => ltN b.nt a.nt = false
theorem tri_sorted {K : PySem.W.Frag} {F : Hp} {h : Heap} {T : List (D × V × Value)} (k : ∀ t ∈ T, Tri K F h t) {out : List Value} (hs : SrtO.Srtd (fun u v => ltN (keyAt h u) (keyAt h v)) out) (hp : out.Perm (T.map (·.2.2))) :
    ∃ (vs : List V) (ys : List D), RpA K F vs ys ∧ Vals vs out ∧ SortTo (T.map (·.1)) ys := by
  obtain ⟨T', p, e⟩ := perm_lift (·.2.2) hp T rfl
  have k' : ∀ t ∈ T', Tri K F h t := fun t ht => k t (p.mem_iff.mp ht)
  obtain ⟨a, b, c⟩ := rpa_of k'
  rw [e] at b
  refine ⟨_, _, a, b, p.map _, ?_⟩
  have hs' : (T'.map (·.2.2)).Pairwise fun u v => ltN (keyAt h v) (keyAt h u) = false := by rw [e]; exact hs
  rw [List.pairwise_map] at hs' ⊢
  refine hs'.imp_of_mem fun {x y} hx hy z => ?_
  rw [keyAt_of (k' x hx).sv, keyAt_of (k' y hy).sv] at z
  exact z
def rSortC (K : PySem.W.Frag) (xs : List V) (H : Hp) (Q : VK) : Prop := ∃ F a d, Sub F H ∧ xs = [.ref a] ∧ Rp K F (.ref a) d ∧
  ((∃ ds, d = .lst ds ∧ SrtD ds ∧ ∀ vs ys p, RpA K F vs ys → SortTo ds ys → H p = none → Q (.ref p) (upd H p (.lst vs))) ∨
   ∃ kvs, d = .dic kvs ∧ SrtD (kvs.map (·.1)) ∧ ∀ vs ys p, RpA K F vs ys → SortTo (kvs.map (·.1)) ys → H p = none → Q (.ref p) (upd H p (.lst vs)))
theorem keys_flat {K : PySem.W.Frag} {F : Hp} : ∀ {ks : List (L2.Key × V)} {kvs : List (D × D)}, kvs.map (·.1) = ks.map (fun p => keyD p.1) → RpA K F (ks.map fun p => kV p.1) (kvs.map (·.1))
  | [], [], _ => .nil
  | [], _ :: _, e => by simp at e
  | _ :: _, [], e => by simp at e
  | (k, v) :: ks, kv :: kvs, e => by
    simp only [List.map_cons, List.cons.injEq] at e
    rw [List.map_cons, List.map_cons, e.1]
    refine .cons ?_ (keys_flat e.2)
    rcases k with i | x
    · exact .int i
    · exact .str x
theorem flat_raw {P : Program} {w : World} {es : List DictEntry} {vs : List (L2.Key × Value)} (p : Pairs (mixKind P w) es vs) : ∀ {ks : List (L2.Key × V)}, KV ks vs → Vals (ks.map fun p => kV p.1) (es.map (·.key)) ∧ Vals (ks.map (·.2)) (es.map (·.val)) := by
  induction p with
  | nil =>
    intro ks r
    unfold KV at r
    cases r
    exact ⟨.nil, .nil⟩
  | @cons e kv es vs h1 h2 _ ih =>
    intro ks r
    unfold KV at r
    cases r with
    | @cons q _ ks _ r1 r2 =>
      obtain ⟨a, b⟩ := ih (show KV ks vs from r2)
      refine ⟨.cons ?_ a, .cons (by dsimp only; rw [h2]; exact r1.2) b⟩
      dsimp only
      rw [r1.1]
      rcases keyIs_shape h1 with ⟨i, t, e1, e2⟩ | ⟨x, t, e1, e2⟩
      · rw [e1, e2]; exact ⟨t, rfl⟩
      · rw [e1, e2]; exact ⟨t, rfl⟩
theorem rows_raw : ∀ {rows : List (NestedKey × Addr × V)} {xs : List (NestedKey × Addr × Value)}, Paired R3 rows xs → Vals (rows.map fun r => V.ref r.2.1) (xs.map fun x => Value.ref x.2.1) ∧ Vals (rows.map (·.2.2)) (xs.map (·.2.2))
  | _, _, .nil => ⟨.nil, .nil⟩
  | _, _, .cons h t => by
    obtain ⟨a, b⟩ := rows_raw t
    exact ⟨.cons (by dsimp only; rw [h.2.1]; rfl) a, .cons h.2.2 b⟩
/-- what walking a dict gives -/
theorem dict_raw (I : Inv X pins σ H s) (sb : Sub F H) {a : Addr} {kvs : List (D × D)} (r : Rp X.K F (.ref a) (.dic kvs)) :
    (a == sysModules) = false ∧ ∃ (es : Array DictEntry) (ep : Nat) (vs ws : List V), s.heap.DictRaw a es ep ∧ es.size ≤ sizeLine ∧ RpA X.K F vs (kvs.map (·.1)) ∧ Vals vs (es.toList.map (·.key)) ∧ RpA X.K F ws (kvs.map (·.2)) ∧ Vals ws (es.toList.map (·.val)) := by
  cases r with
  | @dic a o ks _ h ra e =>
    obtain ⟨z, hd, vs, rel, ob, es, ep, h1, h2, h3, _, h4, _⟩ := dk_rd I.hok (.inr ⟨o, sb.frz h⟩)
    obtain ⟨p, q⟩ := flat_raw h4 rel
    have hl := p.length
    simp only [List.length_map, Array.length_toList] at hl
    exact ⟨hd, es, ep, _, _, ⟨ob, h1, h2, h3⟩, by omega, keys_flat e, p, ra, q⟩
  | @dicT a o rows _ h k0 k1 k2 r1 r2 =>
    obtain ⟨hd, hz, xs, pr, ob, es, ep, h1, h2, h3, h4, _, _⟩ := dkO_of I sb (.inr ⟨o, sb.frz h⟩) k1 k2 r1
    have e := congrArg List.length h4
    rw [List.length_map, Array.length_toList, ← Paired.length pr] at e
    obtain ⟨p, q⟩ := rows_raw pr
    refine ⟨hd, es, ep, _, _, ⟨ob, h1, h2, h3⟩, by omega, r1, ?_, r2, ?_⟩
    · rw [h4, List.map_map]; exact p
    · rw [h4, List.map_map]; exact q
theorem vals_items : ∀ {us acc : List Value}, acc.length = us.length → (∀ (j : Nat) (v : Value), acc[j]? = some v → us[j]? = some v) → acc = us
  | us, acc, h, k => List.ext_getElem? fun j => by
    cases e : acc[j]? with
    | some v => exact (k j v e).symm
    | none =>
      have := List.getElem?_eq_none_iff.mp e
      exact (List.getElem?_eq_none (by omega)).symm
theorem call_sortC (hcalm : X.calm = true) (hu : X.A.units + 65 < cLine) : CallR X (.builtin "sorted") (rSortC X.K) := by
  intro pins s σ H xs us Q I r ⟨F, a, d, sb, ex, rd, q⟩
  subst ex
  obtain ⟨u, eu, rx⟩ := vals1 r
  subst eu
  cases (show u = Value.ref a from rx)
  -- a row of values in a heap that keeps all
  have key : ∀ {T : List (D × V × Value)} {s1 : Shared}, (∀ t ∈ T, Tri X.K F s.heap t) → SrtD (T.map (·.1)) → (∀ b o, s.heap.get? b = some o → s1.heap.get? b = some o) → ∀ (aa : Addr) (A : Around), A.units + 8 < cLine → s1.heap.get? aa = some (seqObj "list" (T.map (·.2.2)).toArray 0) → 2 ≤ (T.map (·.2.2)).length →
      SrtO.SortableO X.prog X.w A s1 aa (T.map (·.2.2)) fun u v => ltN (keyAt s.heap u) (keyAt s.heap v) := fun {T s1} k S kk aa A hA ha h2 => by
    obtain ⟨_, _, sv⟩ := rpa_of k
    have sv' : Svs s1.heap ((T.map (·.1)).map D.nt) (T.map (·.2.2)) := sv.at' fun b o e _ => kk b o e
    refine sortable_n (s := s1) sv' (fun v hv j z => ?_) S.ok h2 (fun o e => ?_) hA
    · obtain ⟨j0, _, z0⟩ := svs_mem sv v hv
      rw [keyAt_of z0]
      exact NestedIs.inj _ _ v (z0.at' fun b o e _ => kk b o e).nested z.nested
    · have e' : some o = some (seqObj "list" (T.map (·.2.2)).toArray 0) := e.symm.trans ha
      cases e'
      intro c
      exact absurd (Value.type.inj c) (by decide)
  rcases q with ⟨ds, rfl, S, q⟩ | ⟨kvs, rfl, S, q⟩
  · cases rd with
    | @lst _ vs _ hF ra =>
      obtain ⟨its, rv, pl, hz⟩ := I.list (.of (sb.lst hF))
      obtain ⟨T, rfl, rfl, rfl, k⟩ := tri_of I sb S.all ra rv
      have hz' : (T.map (·.2.2)).length ≤ sizeLine := by simpa using hz
      refine SrtO.sorted_ord (ltN_swo (keyAt s.heap)) pl.isList hz' (fun h2 h₁ aa ha kk => key (s1 := { s with heap := h₁ }) k S (fun b o e => (kk b o e).2) aa _ (by rw [Around.in1_units, Around.in1_units]; omega) ha h2) fun out hs hb => ?_
      obtain ⟨vs', ys, g1, g2, g3⟩ := tri_sorted k hs hb.perm
      obtain ⟨n, hn⟩ := PyProof.Rows.sortedAll_at s.heap (T.map (·.2.2)) out.toArray
      have hlen : vs'.length ≤ sizeLine := by
        rw [g2.length, hb.perm.length_eq]; exact hz'
      exact ⟨.ref (s.heap.objs.size + 1), upd H (s.heap.objs.size + 1) (.lst vs'), I.laid (t' := s.toks) (fun b o e => PyProof.Rows.sortedAll_old e) (Nat.le_succ _) ⟨hlen, out, n, g2, hn⟩, rfl, q vs' ys _ g1 g3 (I.hok.fresh (Nat.le_succ _))⟩
  · obtain ⟨hd, es, ep, vs, ws, hr, hz, ra, rv, _, _⟩ := dict_raw I sb rd
    obtain ⟨T, e1, rfl, e3, k⟩ := tri_of I sb S.all ra rv
    rw [← e1] at S q
    refine Calls.call_function_entry PyProof.Rows.kind_sorted PyProof.Rows.plain_sorted PyProof.Rows.entry_sorted (PyProof.Rows.args_sorted1 _) ?_
    unfold Builtin.«sorted»
    refine wpAny_bind (m := checkCount "sorted" 1 1 _) (wpAny_pure ?_)
    refine wpAny_bind (PySem.W.kdu_collect (A := X.A.in1) (KdlSrc.rawDict (es := es) (ep := ep) hd) (I.ok.hd hcalm) hr hz fun h' tk acc hk hacc => ?_)
    have eacc : acc.toList = T.map (·.2.2) := by
      rw [e3]
      refine vals_items (by rw [Array.length_toList, hacc.1, List.length_map, Array.length_toList]) fun j v e => ?_
      obtain ⟨hi, ev⟩ := hacc.2 j v (by rw [← Array.getElem?_toList]; exact e)
      rw [List.getElem?_map, Array.getElem?_toList, Array.getElem?_eq_getElem hi, ev]
      rfl
    have hz' : (T.map (·.2.2)).length ≤ sizeLine := by
      rw [e3, List.length_map, Array.length_toList]; exact hz
    rw [eacc]
    have I1 : Inv X pins σ H { s with heap := h', toks := tk } := I.kept hk
    refine wpAny_bind (wpAny_newList ?_ hz')
    have hoL : (h'.push (seqObj "list" (T.map (·.2.2)).toArray 0)).get? h'.objs.size = some (seqObj "list" (T.map (·.2.2)).toArray 0) := Heap.get?_push_size _ rfl
    show wpAny _ _ _ _ _ { s with heap := h'.push (seqObj "list" (T.map (·.2.2)).toArray 0), toks := tk }
    refine wpAny_bind (wpAny_holding (wpAny_call_entry PyProof.Rows.slot_list_sort ⟨_, hoL, rfl⟩ PyProof.Rows.entry_list_sort
      (SrtO.list_sort_ord (s := { s with heap := h'.push (seqObj "list" (T.map (·.2.2)).toArray 0), toks := tk }) (ltN_swo (keyAt s.heap)) hoL hz' (fun h2 => ?_) fun out hs hb => ⟨_, rfl, ?_⟩)
      (PyProof.Rows.args_list_sort _)))
    · refine key (s1 := { s with heap := h'.push (seqObj "list" (T.map (·.2.2)).toArray 0), toks := tk }) k S (fun b o e => Heap.get?_push_of_some _ (hk b o e)) _ _ ?_ hoL h2
      simp only [Around.in1_units]
      omega
    · obtain ⟨vs', ys, g1, g2, g3⟩ := tri_sorted k hs hb.perm
      obtain ⟨n, hn⟩ := PyProof.Rows.sortedHeap_at (vs := T.map (·.2.2)) (out := out.toArray) hoL
      have hlen : vs'.length ≤ sizeLine := by
        rw [g2.length, hb.perm.length_eq]; exact hz'
      refine wpAny_pure ⟨_, rfl, .ref h'.objs.size, upd H h'.objs.size (.lst vs'), I1.laid (t' := tk) (fun b u e => ?_) (Nat.le_refl _) ⟨hlen, out, n, g2, hn⟩, rfl, q vs' ys _ g1 g3 (I1.hok.fresh (Nat.le_refl _))⟩
      have hb : b < h'.objs.size := Heap.lt_size e
      rw [PyProof.Rows.sortedHeap_old (Nat.ne_of_lt hb) (by rw [size_push']; exact Nat.lt_succ_of_lt hb)]
      exact Heap.get?_push_of_some _ e
def sortedC : DF := fun ds Q => match ds with
  | [.lst xs] => SrtD xs ∧ ∀ ys, SortTo xs ys → Q (.lst ys)
  | [.dic kvs] => SrtD (kvs.map (·.1)) ∧ ∀ ys, SortTo (kvs.map (·.1)) ys → Q (.lst ys)
  | _ => False
theorem cdo_sorted {K : PySem.W.Frag} : CallDo K (rSortC K) sortedC := fun F H xs ds Q0 Q s r q k => by
  rcases r with _ | ⟨r1, _ | ⟨_, _⟩⟩
  · exact q.elim
  · rename_i d
    cases d <;> first | exact q.elim | skip
    · obtain ⟨S, q⟩ := q
      cases r1 with
      | lst h ra => exact ⟨F, _, _, s, rfl, .lst h ra, .inl ⟨_, rfl, S, fun vs ys p g1 g2 hp => k _ _ F _ (Ext.newO s hp) (OwnV.lst hp (s.none hp) upd_same g1) (q ys g2)⟩⟩
    · obtain ⟨S, q⟩ := q
      have r0 := r1
      cases r1 with
      | dic _ _ _ => exact ⟨F, _, _, s, rfl, r0, .inr ⟨_, rfl, S, fun vs ys p g1 g2 hp => k _ _ F _ (Ext.newO s hp) (OwnV.lst hp (s.none hp) upd_same g1) (q ys g2)⟩⟩
      | dicT _ _ _ _ _ _ => exact ⟨F, _, _, s, rfl, r0, .inr ⟨_, rfl, S, fun vs ys p g1 g2 hp => k _ _ F _ (Ext.newO s hp) (OwnV.lst hp (s.none hp) upd_same g1) (q ys g2)⟩⟩
  · exfalso
    unfold sortedC at q
    split at q
    · rename_i h; cases h
    · rename_i h; cases h
    · exact q
end
end DV

namespace DV
open PySem PySem.Spec PyProof.Rows L2
/-! ### loops over enumerate(xs), zip(xs, ys) -/
def enumD : Nat → List D → List D
  | _, [] => []
  | n, d :: ds => .tup [.int (n : Int), d] :: enumD (n + 1) ds
def zipD : List D → List D → List D
  | d :: ds, e :: es => .tup [d, e] :: zipD ds es
  | _, _ => []
theorem enumD_len : ∀ {n : Nat} {ds : List D}, (enumD n ds).length = ds.length
  | _, [] => rfl
  | n, d :: ds => congrArg (· + 1) (enumD_len (n := n + 1) (ds := ds))
theorem enumD_get : ∀ {n i : Nat} {ds : List D} {d : D}, ds[i]? = some d → (enumD n ds)[i]? = some (.tup [.int ((n + i : Nat) : Int), d])
  | _, _, [], _, e => by simp at e
  | n, 0, d :: ds, _, e => by
    simp only [List.getElem?_cons_zero, Option.some.injEq] at e
    subst e; rfl
  | n, i + 1, d :: ds, x, e => by
    simp only [List.getElem?_cons_succ] at e
    have := enumD_get (n := n + 1) e
    simp only [enumD, List.getElem?_cons_succ]
    rw [this, show n + 1 + i = n + (i + 1) by omega]
theorem zipD_len : ∀ {ds es : List D}, (zipD ds es).length = min ds.length es.length
  | [], _ => by simp [zipD]
  | _ :: _, [] => by simp [zipD]
  | d :: ds, e :: es => by simp [zipD, zipD_len (ds := ds) (es := es)]
theorem zipD_get : ∀ {i : Nat} {ds es : List D} {d e : D}, ds[i]? = some d → es[i]? = some e → (zipD ds es)[i]? = some (.tup [d, e])
  | _, [], _, _, _, e, _ => by simp at e
  | _, _ :: _, [], _, _, _, e => by simp at e
  | 0, _ :: _, _ :: _, _, _, a, b => by
    simp only [List.getElem?_cons_zero, Option.some.injEq] at a b
    subst a b; rfl
  | i + 1, _ :: _, _ :: _, _, _, a, b => by
    simp only [List.getElem?_cons_succ] at a b
    simp only [zipD, List.getElem?_cons_succ]
    exact zipD_get a b
theorem it_enum {K : PySem.W.Frag} {F : Hp} {a : Addr} {xs : List V} {ds : List D} (h : F a = some (.lst xs)) (ra : RpA K F xs ds) : ItOk K (Ite K a) F (enumD 0 ds) := fun F' H' m s' i => by
  have sq : SqL K H' a xs := .of (s'.lst (m _ _ h))
  rw [enumD_len]
  refine ⟨fun hi => ?_, fun hi => ⟨xs, sq, by rw [ra.length]; exact hi⟩⟩
  have hl : i < xs.length := by rw [ra.length]; exact hi
  refine ⟨⟨xs, _, sq, List.getElem?_eq_getElem hl⟩, fun x H'' hyy => ?_⟩
  obtain ⟨T, y, rfl, hT, rfl, e2⟩ := hyy
  obtain ⟨v, ev, rv⟩ := ra.get (List.getElem?_eq_getElem hi)
  have ex := e2 xs sq
  rw [ev] at ex
  have exy := Option.some.inj ex
  subst exy
  have x1 := Ext.newT (xs := [.int (i : Nat), v]) s' hT
  refine ⟨_, _, x1, enumD_get (List.getElem?_eq_getElem hi), .tup (.of upd_same) (.cons ?_ (.cons (rv.mono (m.trans x1.mono)) .nil))⟩
  rw [Nat.zero_add]
  exact .int _
theorem it_zip {K : PySem.W.Frag} {F : Hp} {a b : Addr} {xs ys : List V} {ds es : List D} (h : F a = some (.lst xs)) (ra : RpA K F xs ds) (h' : F b = some (.lst ys)) (rb : RpA K F ys es) : ItOk K (Itz K a b) F (zipD ds es) := fun F' H' m s' i => by
  have sq : SqL K H' a xs := .of (s'.lst (m _ _ h))
  have sq' : SqL K H' b ys := .of (s'.lst (m _ _ h'))
  rw [zipD_len]
  refine ⟨fun hi => ?_, fun hi => ⟨xs, ys, sq, sq', by rw [ra.length, rb.length]; omega⟩⟩
  have i1 : i < ds.length := by omega
  have i2 : i < es.length := by omega
  have hl : i < xs.length := by rw [ra.length]; exact i1
  have hl' : i < ys.length := by rw [rb.length]; exact i2
  refine ⟨⟨xs, ys, _, _, sq, sq', List.getElem?_eq_getElem hl, List.getElem?_eq_getElem hl'⟩, fun x H'' hyy => ?_⟩
  obtain ⟨T, y, z, rfl, hT, rfl, e2, e3⟩ := hyy
  obtain ⟨v, ev, rv⟩ := ra.get (List.getElem?_eq_getElem i1)
  obtain ⟨u, eu, ru⟩ := rb.get (List.getElem?_eq_getElem i2)
  have ex := e2 xs sq
  rw [ev] at ex
  have exy := Option.some.inj ex
  subst exy
  have ey := e3 ys sq'
  rw [eu] at ey
  have eyy := Option.some.inj ey
  subst eyy
  have x1 := Ext.newT (xs := [v, u]) s' hT
  exact ⟨_, _, x1, zipD_get (List.getElem?_eq_getElem i1) (List.getElem?_eq_getElem i2), .tup (.of upd_same) (.cons (rv.mono (m.trans x1.mono)) (.cons (ru.mono (m.trans x1.mono)) .nil))⟩
def iEnumD (t : DA) : DI := fun ρ Q => t ρ fun ds => match ds with
  | [.lst xs] => Q (enumD 0 xs)
  | _ => False
def iZipD (t : DA) : DI := fun ρ Q => t ρ fun ds => match ds with
  | [.lst xs, .lst ys] => Q (zipD xs ys)
  | _ => False
section
variable {X : Cx} {e e2 : Expr} {tr : DA}
theorem pdi_enum {elts : List Expr} {kk : Nat} {tpos p pos : Pos} (hm : X.mg "enumerate" = none) (ha : PDA X [e] tr) (hg : Gl X "enumerate" := by rfl) (hs : starEach [e] X.env = [(false, eval e X.env)] := by rfl) : PDI X (.Tuple elts kk tpos) (.Call (.Name "enumerate" p) [e] [] pos) (iEnumD tr) :=
  PI.impD (pi_enum hg hm ha hs) fun σ H R ⟨ρ, F, Q0, s, en, ht, k⟩ => ⟨ρ, F, _, s, en, ht, fun vs H1 F1 ds x1 r q => by
    unfold iEnumD at ht
    split at q
    · cases r with
      | cons r1 r2 =>
        cases r2
        cases r1 with
        | lst h1 ra => exact ⟨_, _, rfl, .of (x1.sub.lst h1), k _ H1 F1 _ x1 (it_enum h1 ra) q⟩
    · exact q.elim⟩
theorem pdi_zip {elts : List Expr} {kk : Nat} {tpos p pos : Pos} (hm : X.mg "zip" = none) (ha : PDA X [e, e2] tr) (hg : Gl X "zip" := by rfl) (hs : starEach [e, e2] X.env = (false, eval e X.env) :: starEach [e2] X.env := by rfl) (hpl : (backTo pos (starEach [e2] X.env)).any (·.1) = false := by rfl) : PDI X (.Tuple elts kk tpos) (.Call (.Name "zip" p) [e, e2] [] pos) (iZipD tr) :=
  PI.impD (pi_zip hg hm ha hs hpl) fun σ H R ⟨ρ, F, Q0, s, en, ht, k⟩ => ⟨ρ, F, _, s, en, ht, fun vs H1 F1 ds x1 r q => by
    unfold iZipD at ht
    split at q
    · rename_i xs ys
      cases r with
      | cons r1 r2 =>
        cases r2 with
        | cons r2 r3 =>
          cases r3
          cases r1 with
          | lst h1 ra =>
            cases r2 with
            | lst h2 rb => exact ⟨_, _, _, _, rfl, .of (x1.sub.lst h1), .of (x1.sub.lst h2), k _ H1 F1 _ x1 (it_zip h1 ra h2 rb) q⟩
    · exact q.elim⟩
end
/-! ### the truth of things -/
def truD (x : D) (Q : Bool → Prop) : Prop := match x with
  | .bl b => Q b
  | .non => Q false
  | .int i => Q (decide (i ≠ 0))
  | .lst ds => Q (!ds.isEmpty)
  | .tup ds => Q (!ds.isEmpty)
  | _ => False
def dTru (t : DE) : DT := fun ρ Q => t ρ fun x => truD x Q
theorem emp_len {K : PySem.W.Frag} {F : Hp} {xs : List V} {ds : List D} (r : RpA K F xs ds) : ds.isEmpty = xs.isEmpty := by
  cases r <;> rfl
theorem pdt_tru {X : Cx} {e : Expr} {t : DE} (h : PD X e t) (he : ∀ whole, isTrue e X.env whole = (do let v ← whole; standAt e.pos; holding [v] (truthy v)) := by intro _; rfl) : PDT X e (dTru t) := (pt_truth h he).impD fun σ H Q ⟨ρ, F, Q0, s, en, ht, k⟩ =>
  ⟨ρ, F, _, s, en, ht, fun x H1 F1 d x1 r q => by
    cases r <;> first | exact q.elim | skip
    · exact ⟨false, rfl, k _ H1 F1 x1 q⟩
    · exact ⟨_, rfl, k _ H1 F1 x1 q⟩
    · rename_i i
      refine ⟨_, rfl, k _ H1 F1 x1 ?_⟩
      have : (i != 0) = decide (i ≠ 0) := by by_cases z : i = 0 <;> simp [z]
      rw [this]; exact q
    · rename_i hs ra
      refine ⟨_, .inr (.inl ⟨_, x1.sub.seqT hs, rfl⟩), k _ H1 F1 x1 ?_⟩
      rw [← emp_len ra]; exact q
    · rename_i hs ra
      refine ⟨_, .inl ⟨_, .of (x1.sub.lst hs), rfl⟩, k _ H1 F1 x1 ?_⟩
      rw [← emp_len ra]; exact q⟩
end DV

namespace DV
open PySem PySem.Spec PyProof.Rows L2
/-! ### list(zip(xs, ys)) -/
section
variable {prog : Program} {w : World} {A : Around} {E : Value → Shared → Prop} {s : Shared}
theorem zip_no_len : typeLookup (.type "zip") "__len__" = pure none := am_miss_of_fast (by decide +kernel)
theorem zip_no_hint : typeLookup (.type "zip") "__length_hint__" = pure none := am_miss_of_fast (by decide +kernel)
theorem hint_zip {r : Addr} {Q : Bool → Shared → Prop} (hT : s.TypeIs (.ref r) "zip") (h : ∀ b, Q b s) : wpAny (model prog w) A (Builtin.List.listLengthHint (.ref r)) Q E s := by
  unfold Builtin.List.listLengthHint
  refine wpAny_bind (wpAny_specialOf hT zip_no_len ?_)
  refine wpAny_bind (wpAny_specialOf hT zip_no_hint ?_)
  exact wpAny_pure (h _)

structure ZAt (z TI TO i1 i2 l1 l2 S : Addr) (xs ys : Array Value) (i : Nat) (h : Heap) : Prop where
  ti : IsPair h TI (.ref i1) (.ref i2)
  it1 : h.IsListIter i1 l1 i
  it2 : h.IsListIter i2 l2 i
  ls1 : h.IsList l1 xs
  ls2 : h.IsList l2 ys
  zp : (IsZip h z TI TO .none ∧ ∃ a b, IsPair h TO a b) ∨ ∃ T f oT, IsZipHeld h z TI TO T f ∧ h.get? T = some oT ∧ T ≠ z ∧ T ≠ i1 ∧ T ≠ i2 ∧ T ≠ S
structure ZOff (z TI TO i1 i2 l1 l2 S : Addr) : Prop where
  z : z ≠ S
  TI : TI ≠ S
  TO : TO ≠ S
  i1 : i1 ≠ S
  i2 : i2 ≠ S
  l1 : l1 ≠ S
  l2 : l2 ≠ S
variable {z TI TO i1 i2 l1 l2 S : Addr} {xs ys : Array Value}
theorem ZAt.keep {i : Nat} {h h' : Heap} (D : ZOff z TI TO i1 i2 l1 l2 S) (x : ZAt z TI TO i1 i2 l1 l2 S xs ys i h) (hk : ∀ b o, b ≠ S → h.get? b = some o → h'.get? b = some o) : ZAt z TI TO i1 i2 l1 l2 S xs ys i h' :=
  ⟨hk _ _ D.TI x.ti, x.it1.at fun o e => hk _ o D.i1 e, x.it2.at fun o e => hk _ o D.i2 e, x.ls1.at fun o e => hk _ o D.l1 e, x.ls2.at fun o e => hk _ o D.l2 e,
    x.zp.imp (fun ⟨a, b, c, d⟩ => ⟨hk _ _ D.z a, b, c, hk _ _ D.TO d⟩) fun ⟨T, f, oT, a, b, r1, r2, r3, r4⟩ => ⟨T, f, oT, hk _ _ D.z a, hk _ _ r4 b, r1, r2, r3, r4⟩⟩
/-- the next pair: a new object -/
theorem ZAt.next {i : Nat} {Q : Option Value → Shared → Prop} (D : ZipApart z TI TO i1 i2 l1 l2) (hS : S < s.heap.objs.size) (st : ZAt z TI TO i1 i2 l1 l2 S xs ys i s.heap) (h1 : i < xs.size) (h2 : i < ys.size)
    (hQ : ∀ h', ZAt z TI TO i1 i2 l1 l2 S xs ys (i + 1) h' → IsPair h' s.heap.objs.size xs[i] ys[i] → (∀ c o, c ≠ z → c ≠ TO → c ≠ i1 → c ≠ i2 → s.heap.get? c = some o → h'.get? c = some o) → Q (some (.ref s.heap.objs.size)) { s with heap := h' }) :
    wpAny (model prog w) A (pyNext (.ref z)) Q E s := by
  have ex := Array.getElem?_eq_getElem h1
  have ey := Array.getElem?_eq_getElem h2
  have lt : ∀ {c o}, s.heap.get? c = some o → s.heap.objs.size ≠ c := fun e => Nat.ne_of_gt (Heap.lt_size e)
  have n1 : s.heap.objs.size ≠ i1 := let ⟨_, e, _⟩ := st.it1; lt e
  have n2 : s.heap.objs.size ≠ i2 := let ⟨_, e, _⟩ := st.it2; lt e
  rcases st.zp with ⟨hz, a, b, hTO⟩ | ⟨T, f, oT, hz, hT, r1, r2, r3, r4⟩
  · refine wpAny_pyNext_zip_item D hz st.ti hTO st.it1 st.it2 st.ls1 st.ls2 ex ey fun h' a1 a2 a3 a4 a5 a6 hk => ?_
    exact hQ h' ⟨hk _ _ D.TIz D.TITO D.TIi1 D.TIi2 st.ti, a3, a4, st.ls1.at fun o e => hk _ o D.l1z D.l1TO D.l1i1 D.l1i2 e, st.ls2.at fun o e => hk _ o D.l2z D.l2TO D.l2i1 D.l2i2 e,
      .inr ⟨s.heap.objs.size, false, _, a1, a5, lt hz, n1, n2, Nat.ne_of_gt hS⟩⟩ a5 hk
  · refine wpAny_pyNext_zip_item_held D hz hT st.ti st.it1 st.it2 st.ls1 st.ls2 ex ey fun h' a1 a3 a4 a5 a6 hk => ?_
    exact hQ h' ⟨hk _ _ D.TIz D.TIi1 D.TIi2 st.ti, a3, a4, st.ls1.at fun o e => hk _ o D.l1z D.l1i1 D.l1i2 e, st.ls2.at fun o e => hk _ o D.l2z D.l2i1 D.l2i2 e,
      .inr ⟨T, true, oT, a1, hk _ _ r1 r2 r3 hT, r1, r2, r3, r4⟩⟩ a5 fun c o c1 _ c3 c4 e => hk c o c1 c3 c4 e
theorem ZAt.done {i : Nat} {Q : Option Value → Shared → Prop} (hh : A.handled = none) (D : ZipApart z TI TO i1 i2 l1 l2) (st : ZAt z TI TO i1 i2 l1 l2 S xs ys i s.heap) (hend : xs.size ≤ i ∨ ys.size ≤ i)
    (hQ : ∀ h', (∀ c o, c ≠ z → c ≠ TO → c ≠ i1 → c ≠ i2 → s.heap.get? c = some o → h'.get? c = some o) → Q none { s with heap := h' }) : wpAny (model prog w) A (pyNext (.ref z)) Q E s := by
  have hend' : xs[i]? = none ∨ ys[i]? = none := hend.imp (fun h => Array.getElem?_eq_none h) fun h => Array.getElem?_eq_none h
  rcases st.zp with ⟨hz, a, b, hTO⟩ | ⟨T, f, oT, hz, hT, r1, r2, r3, r4⟩
  · exact wpAny_pyNext_zip_end hh D hz st.ti hTO st.it1 st.it2 st.ls1 st.ls2 hend' fun h' hk => hQ h' hk
  · exact wpAny_pyNext_zip_end_held hh D hz hT st.ti st.it1 st.it2 st.ls1 st.ls2 hend' fun h' hk => hQ h' fun c o c1 _ c3 c4 e => hk c o c1 c3 c4 e
/-- the pairs laid so far; lo: above all that the iterator turns -/
structure ZMade (xs ys : Array Value) (lo : Addr) (h : Heap) (as : List Addr) : Prop where
  rise : as.Pairwise (· < ·)
  above : ∀ a ∈ as, lo ≤ a
  pairs : ∀ (j : Nat) (a : Addr), as[j]? = some a → ∃ x y, xs[j]? = some x ∧ ys[j]? = some y ∧ IsPair h a x y
theorem loopZ {R : Result → Shared → Prop} {lo : Addr} (hh : A.handled = none) (D : ZipApart z TI TO i1 i2 l1 l2) (O : ZOff z TI TO i1 i2 l1 l2 S) (hlo : z < lo ∧ TO < lo ∧ i1 < lo ∧ i2 < lo ∧ S < lo) {n : Nat} (hn : n = min xs.size ys.size) (hz : n ≤ sizeLine) (res : Value) {h₁ : Heap}
    (hR : ∀ h' tk acc c as, (∀ b o, b ≠ S → b ≠ z → b ≠ TO → b ≠ i1 → b ≠ i2 → h₁.get? b = some o → h'.get? b = some o) → h'.get? S = some { cls := .type "list", dict := none, data := .seq acc c, slots := #[] } → as.length = n → ZMade xs ys lo h' as →
      acc.toList = as.map Value.ref → R (.ok (.ret res)) { s with heap := h', toks := tk }) :
    ∀ (k i : Nat) (h : Heap) (tk c : Nat) (acc : Array Value) (as : List Addr), n - i = k → i ≤ n → ZAt z TI TO i1 i2 l1 l2 S xs ys i h → (∀ b o, b ≠ S → b ≠ z → b ≠ TO → b ≠ i1 → b ≠ i2 → h₁.get? b = some o → h.get? b = some o) →
      h.get? S = some { cls := .type "list", dict := none, data := .seq acc c, slots := #[] } → acc.toList = as.map Value.ref → as.length = i → ZMade xs ys lo h as → lo ≤ h.objs.size →
      codeAny (model prog w) A (.builtin "list.extend.loop" ⟨[.ref S, .ref z, res], []⟩) R { s with heap := h, toks := tk } := by
  have off : ∀ {a : Addr}, lo ≤ a → a ≠ z ∧ a ≠ TO ∧ a ≠ i1 ∧ a ≠ i2 ∧ a ≠ S := fun {a} ha =>
    ⟨Nat.ne_of_gt (Nat.lt_of_lt_of_le hlo.1 ha), Nat.ne_of_gt (Nat.lt_of_lt_of_le hlo.2.1 ha), Nat.ne_of_gt (Nat.lt_of_lt_of_le hlo.2.2.1 ha), Nat.ne_of_gt (Nat.lt_of_lt_of_le hlo.2.2.2.1 ha), Nat.ne_of_gt (Nat.lt_of_lt_of_le hlo.2.2.2.2 ha)⟩
  intro k
  induction k with
  | zero =>
    intro i h tk c acc as hk hi hst hkeep hS hacc hal hG hIs
    refine codeAny_builtin PySem.F.entry_extend_loop ?_
    rw [Around.under_plainId PySem.F.plain_extend_loop _]
    show wpAny _ A.in1 (pyNext (.ref z) >>= _) _ _ _
    refine wpAny_bind (hst.done (s := { s with heap := h, toks := tk }) (A := A.in1) hh D (by omega) fun h' he => ?_)
    refine wpAny_pure (hR h' tk acc c as (fun b o b0 b1 b2 b3 b4 e => he b o b1 b2 b3 b4 (hkeep b o b0 b1 b2 b3 b4 e)) (he S _ (Ne.symm O.z) (Ne.symm O.TO) (Ne.symm O.i1) (Ne.symm O.i2) hS) (by omega) ⟨hG.rise, hG.above, fun j a hj => ?_⟩ hacc)
    obtain ⟨x, y, e1, e2, e3⟩ := hG.pairs j a hj
    obtain ⟨o1, o2, o3, o4, o5⟩ := off (hG.above a (List.mem_of_getElem? hj))
    exact ⟨x, y, e1, e2, he a _ o1 o2 o3 o4 e3⟩
  | succ k ih =>
    intro i h tk c acc as hk hi hst hkeep hS hacc hal hG hIs
    have g1 : i < xs.size := by omega
    have g2 : i < ys.size := by omega
    have hsz : acc.size = i := by rw [← Array.length_toList, hacc, List.length_map, hal]
    have hSl : S < h.objs.size := Heap.lt_size hS
    refine codeAny_builtin PySem.F.entry_extend_loop ?_
    rw [Around.under_plainId PySem.F.plain_extend_loop _]
    show wpAny _ A.in1 (pyNext (.ref z) >>= _) _ _ _
    refine wpAny_bind (hst.next (s := { s with heap := h, toks := tk }) (A := A.in1) D hSl g1 g2 fun h' hst' ht hkp => ?_)
    dsimp only at ht hkp ⊢
    have hS' := hkp S _ (Ne.symm O.z) (Ne.symm O.TO) (Ne.symm O.i1) (Ne.symm O.i2) hS
    have up : ∀ b o, b ≠ S → h'.get? b = some o → (h'.update S (Obj.mapSeq (·.push (Value.ref h.objs.size)))).get? b = some o := fun b o hb e => (Heap.get?_update_other _ _ (Ne.symm hb)).trans e
    show wpAny _ A.in1 (updateSeq S (·.push (Value.ref h.objs.size)) >>= _) _ _ _
    refine wpAny_bind ?_
    refine wpAny_updateSeq hS' rfl (wpAny_pure ⟨plainId_quiet PySem.F.plain_extend_loop _, ih (i + 1) _ tk _ (acc.push (Value.ref h.objs.size)) (as ++ [h.objs.size]) (by omega) (by omega) (hst'.keep O up)
      (fun b o b0 b1 b2 b3 b4 e => up b o b0 (hkp b o b1 b2 b3 b4 (hkeep b o b0 b1 b2 b3 b4 e))) (Heap.get?_update_self _ hS' rfl) (by rw [Array.toList_push, hacc, List.map_append]; rfl) (by rw [List.length_append, hal]; rfl) ⟨?_, ?_, ?_⟩ ?_⟩) (by rw [hsz]; omega) (by show (acc.push (Value.ref h.objs.size)).size ≤ sizeLine + 1; rw [Array.size_push, hsz]; omega)
    · refine List.pairwise_append.mpr ⟨hG.rise, List.pairwise_singleton _ _, fun a ha b hb => ?_⟩
      rw [List.mem_singleton.mp hb]
      obtain ⟨j, hj⟩ := List.mem_iff_getElem?.mp ha
      obtain ⟨_, _, _, _, e⟩ := hG.pairs j a hj
      exact Heap.lt_size e
    · intro a ha
      rcases List.mem_append.mp ha with ha | ha
      · exact hG.above a ha
      · rw [List.mem_singleton.mp ha]; exact hIs
    · intro j b hj
      rcases Nat.lt_trichotomy j as.length with h1 | h1 | h1
      · rw [List.getElem?_append_left h1] at hj
        obtain ⟨x, y, e1, e2, e3⟩ := hG.pairs j b hj
        obtain ⟨o1, o2, o3, o4, o5⟩ := off (hG.above b (List.mem_of_getElem? hj))
        exact ⟨x, y, e1, e2, up b _ o5 (hkp b _ o1 o2 o3 o4 e3)⟩
      · subst h1
        have hb : h.objs.size = b := by simpa using hj
        subst hb
        subst hal
        exact ⟨_, _, Array.getElem?_eq_getElem g1, Array.getElem?_eq_getElem g2, up _ _ (Nat.ne_of_gt hSl) ht⟩
      · have hnone : (as ++ [h.objs.size])[j]? = none := List.getElem?_eq_none (by rw [List.length_append, List.length_singleton]; omega)
        rw [hnone] at hj; cases hj
    · have e : (h'.update S (Obj.mapSeq (·.push (Value.ref h.objs.size)))).get? h.objs.size = _ := up _ _ (Nat.ne_of_gt hSl) ht
      exact Nat.le_trans hIs (Nat.le_of_lt (Heap.lt_size e))
theorem extZ {R : Result → Shared → Prop} {lo : Addr} (hh : A.handled = none) (D : ZipApart z TI TO i1 i2 l1 l2) (O : ZOff z TI TO i1 i2 l1 l2 S) (hlo : z < lo ∧ TO < lo ∧ i1 < lo ∧ i2 < lo ∧ S < lo) (hlo' : lo ≤ s.heap.objs.size) {n : Nat} (hn : n = min xs.size ys.size) (hz : n ≤ sizeLine) (res : Value) {f0 : Value}
    (hzp : IsZip s.heap z TI TO f0) (hst : ZAt z TI TO i1 i2 l1 l2 S xs ys 0 s.heap) (c₀ : Nat) (hS : s.heap.get? S = some { cls := .type "list", data := .seq #[] c₀ })
    (hR : ∀ h' tk acc c as, (∀ b o, b ≠ S → b ≠ z → b ≠ TO → b ≠ i1 → b ≠ i2 → s.heap.get? b = some o → h'.get? b = some o) → h'.get? S = some { cls := .type "list", dict := none, data := .seq acc c, slots := #[] } → as.length = n → ZMade xs ys lo h' as →
      acc.toList = as.map Value.ref → R (.ok (.ret res)) { s with heap := h', toks := tk }) :
    wpAny (model prog w) A.in1 (Builtin.List.listExtendWith (.ref S) (.ref z) res)
      (fun fin s' => match fin with | .done f => R (.ok f) s' | .again c' => c'.quiet = true ∧ codeAny (model prog w) A c' R s') (fun e s' => R (.error e) s') s := by
  have key : ∀ (h : Heap) (c₁ tk : Nat), (∀ b o, b ≠ S → s.heap.get? b = some o → h.get? b = some o) → lo ≤ h.objs.size →
      h.get? S = some { cls := .type "list", data := .seq #[] c₁ } → codeAny (model prog w) A (.builtin "list.extend.loop" ⟨[.ref S, .ref z, res], []⟩) R { s with heap := h, toks := tk } := by
    intro h c₁ tk hk hl hS₁
    exact loopZ (s := s) (h₁ := s.heap) hh D O hlo hn hz res (fun h' tk' acc c as hk' hS' hl hG hacc => hR h' tk' acc c as hk' hS' hl hG hacc)
      n 0 h tk c₁ #[] [] (Nat.sub_zero _) (Nat.zero_le _) (hst.keep O hk) (fun b o hb _ _ _ _ e => hk b o hb e) hS₁ rfl rfl
      ⟨List.Pairwise.nil, (fun _ ha => nomatch ha), (fun j a hj => by simp at hj)⟩ hl
  unfold Builtin.List.listExtendWith
  refine wpAny_bind (wpAny_typeOf (T := "zip") ⟨_, hzp, rfl⟩ ?_)
  have h1 : Builtin.List.listSameRef (.ref S) (.ref z) = false := by simp [Builtin.List.listSameRef, Ne.symm O.z]
  have h2 : (Value.type "zip" == Value.type "list") = false := by decide
  have h3 : (Value.type "zip" == Value.type "tuple") = false := by decide
  simp only [h1, h2, h3, Bool.or_false, Bool.false_eq_true, if_false]
  refine wpAny_bind (wpAny_pyIter_zip hzp ?_)
  refine wpAny_bind (wpAny_holding (hint_zip ⟨_, hzp, rfl⟩ fun bb => ?_))
  refine wpAny_ite_split (fun _ => ?_) (fun _ => wpAny_pure ⟨plainId_quiet PySem.F.plain_extend_loop _, key _ c₀ _ (fun b o _ e => e) hlo' hS⟩)
  refine wpAny_bind (wpAny_rule ?_)
  refine wpAny_bind ?_
  show wpAny _ _ (updateSeq S (·.push .none) >>= fun _ => updateSeq S (·.pop)) _ _ _
  refine wpAny_bind (wpAny_updateSeq hS rfl ?_)
  have hS₂ := Heap.get?_update_self (Obj.mapSeq (·.push Value.none)) hS rfl
  refine wpAny_updateSeq (hz := by seq_fits) hS₂ rfl ?_
  have hS₃ := Heap.get?_update_self (Obj.mapSeq (·.pop)) hS₂ rfl
  refine wpAny_pure ⟨plainId_quiet PySem.F.plain_extend_loop _, key _ _ _ (fun b o hb e => ?_) ?_ hS₃⟩
  · exact (Heap.get?_update_other _ _ (Ne.symm hb)).trans ((Heap.get?_update_other _ _ (Ne.symm hb)).trans e)
  · rw [Heap.size_update, Heap.size_update]; exact hlo'
/-- list(z) of a fresh zip -/
theorem call_listZ {Q : Value → Shared → Prop} (hh : A.handled = none) (D : ZipApart z TI TO i1 i2 l1 l2) {n : Nat} (hn : n = min xs.size ys.size) (hz : n ≤ sizeLine) (hlt : z < s.heap.objs.size ∧ TI < s.heap.objs.size ∧ TO < s.heap.objs.size ∧ i1 < s.heap.objs.size ∧ i2 < s.heap.objs.size ∧ l1 < s.heap.objs.size ∧ l2 < s.heap.objs.size)
    (hzp : IsZip s.heap z TI TO .none) (hTI : IsPair s.heap TI (.ref i1) (.ref i2)) {a b : Value} (hTO : IsPair s.heap TO a b) (h1 : s.heap.IsListIter i1 l1 0) (h2 : s.heap.IsListIter i2 l2 0) (hl1 : s.heap.IsList l1 xs) (hl2 : s.heap.IsList l2 ys)
    (hQ : ∀ h' tk acc c as, (∀ b o, b ≠ z → b ≠ TO → b ≠ i1 → b ≠ i2 → s.heap.get? b = some o → h'.get? b = some o) → h'.get? s.heap.objs.size = some { cls := .type "list", dict := none, data := .seq acc c, slots := #[] } → as.length = n → ZMade xs ys (s.heap.objs.size + 1) h' as →
      acc.toList = as.map Value.ref → Q (.ref s.heap.objs.size) { s with heap := h', toks := tk }) : wpAny (model prog w) A (call (.type "list") [.ref z]) Q E s := by
  obtain ⟨z1, z2, z3, z4, z5, z6, z7⟩ := hlt
  refine callType_codes (Q₁ := fun obj s₁ => obj = .ref s.heap.objs.size ∧ s₁ = { s with heap := s.heap.push { cls := .type "list", data := .seq #[] } }) PySem.F.called_list (PySem.F.typeCall_list_1 _) PySem.F.entry_list_init
    (PySem.code_list_new _ ⟨rfl, rfl⟩) fun obj s₁ h₁ => ?_
  obtain ⟨rfl, rfl⟩ := h₁
  have hS : (s.heap.push { cls := .type "list", data := .seq #[] }).get? s.heap.objs.size = some { cls := .type "list", data := .seq #[] } := Heap.get?_push_size _ rfl
  have O : ZOff z TI TO i1 i2 l1 l2 s.heap.objs.size := ⟨Nat.ne_of_lt z1, Nat.ne_of_lt z2, Nat.ne_of_lt z3, Nat.ne_of_lt z4, Nat.ne_of_lt z5, Nat.ne_of_lt z6, Nat.ne_of_lt z7⟩
  have st0 : ZAt z TI TO i1 i2 l1 l2 s.heap.objs.size xs ys 0 s.heap := ⟨hTI, h1, h2, hl1, hl2, .inl ⟨hzp, _, _, hTO⟩⟩
  refine ⟨⟨_, hS, rfl⟩, PySem.F.args_list_init_2 _ _, ?_⟩
  show wpAny _ _ (do let old ← Builtin.List.listItems (.ref s.heap.objs.size); Builtin.List.listUpdate (.ref s.heap.objs.size) (fun _ => #[]); letGo old.toList.reverse; Builtin.List.listExtendWith (.ref s.heap.objs.size) (.ref z) .none) _ _ _
  refine wpAny_bind ?_
  unfold Builtin.List.listItems
  refine wpAny_bind (wpAny_seqItems hS rfl (wpAny_pure ?_))
  show wpAny _ _ (updateSeq s.heap.objs.size (fun _ => #[]) >>= fun _ => letGo (#[] : Array Value).toList.reverse >>= fun _ => Builtin.List.listExtendWith (.ref s.heap.objs.size) (.ref z) .none) _ _ _
  refine wpAny_bind (wpAny_updateSeq hS rfl ?_)
  have hS₂ := Heap.get?_update_self (Obj.mapSeq (fun _ => (#[] : Array Value))) hS rfl
  have oth : ∀ b o, b ≠ s.heap.objs.size → s.heap.get? b = some o → ((s.heap.push { cls := .type "list", data := .seq #[] }).update s.heap.objs.size (Obj.mapSeq (fun _ => (#[] : Array Value)))).get? b = some o :=
    fun b o hb e => (Heap.get?_update_other _ _ (Ne.symm hb)).trans (Heap.get?_push_of_some _ e)
  refine wpAny_bind (wpAny_letGo ?_)
  refine extZ (s := { s with heap := (s.heap.push { cls := .type "list", data := .seq #[] }).update s.heap.objs.size (Obj.mapSeq (fun _ => (#[] : Array Value))) }) (prog := prog) (w := w) (A := A.in1) (lo := s.heap.objs.size + 1) hh D O ⟨Nat.lt_succ_of_lt z1, Nat.lt_succ_of_lt z3, Nat.lt_succ_of_lt z4, Nat.lt_succ_of_lt z5, Nat.lt_succ_self _⟩ ?_ hn hz .none (oth _ _ O.z hzp) (st0.keep O oth) _ hS₂ fun h' tk acc c as hk hS' hl hG hacc => ?_
  · show s.heap.objs.size + 1 ≤ ((s.heap.push _).update _ _).objs.size
    rw [Heap.size_update, Heap.size_push]
    exact Nat.le_refl _
  · exact ⟨rfl, hQ h' tk acc c as (fun b o b1 b2 b3 b4 e => hk b o (Nat.ne_of_lt (Heap.lt_size e)) b1 b2 b3 b4 (oth b o (Nat.ne_of_lt (Heap.lt_size e)) e)) hS' hl hG hacc⟩
end
/-- pairs that are laid already come to be tracked -/
theorem take_pairs {X : Cx} {pins : List (Addr × Obj)} {σ : L2.St} {H0 : Hp} {s : Shared} {h' : Heap} {tk : Nat} (I0 : Inv X pins σ H0 s) : ∀ (as : List Addr) (vx vy : List V) (ux uy : List Value) (dx dy : List D) (F1 H1 : Hp), Inv X pins σ H1 { s with heap := h', toks := tk } → Sub F1 H1 → as.Pairwise (· < ·) →
    (∀ a ∈ as, s.heap.objs.size ≤ a ∧ H1 a = none) → (∀ (j : Nat) (a : Addr), as[j]? = some a → ∃ x y, ux[j]? = some x ∧ uy[j]? = some y ∧ IsPair h' a x y) → Vals vx ux → Vals vy uy → RpA X.K F1 vx dx → RpA X.K F1 vy dy → as.length = min ux.length uy.length →
    ∃ F2 H2, Inv X pins σ H2 { s with heap := h', toks := tk } ∧ Ext F1 H1 F2 H2 ∧ (∀ b, b ∉ as → H2 b = H1 b) ∧ RpA X.K F2 (as.map V.ref) (zipD dx dy)
  | [], vx, vy, ux, uy, dx, dy, F1, H1, I1, sb, _, _, _, rx, ry, qx, qy, hl => by
    refine ⟨F1, H1, I1, .refl sb, fun b _ => rfl, ?_⟩
    have : zipD dx dy = [] := List.eq_nil_of_length_eq_zero (by
      rw [zipD_len, ← qx.length, ← qy.length, rx.length, ry.length]
      exact hl.symm)
    rw [this]
    exact .nil
  | a :: as, vx, vy, ux, uy, dx, dy, F1, H1, I1, sb, hr, hn, hp, rx, ry, qx, qy, hl => by
    obtain ⟨x, y, e1, e2, e3⟩ := hp 0 a rfl
    obtain ⟨hb, hnone⟩ := hn a List.mem_cons_self
    cases rx with
    | nil => simp at e1
    | @cons v x' vx ux r1 rx =>
      cases ry with
      | nil => simp at e2
      | @cons v2 y' vy uy r2 ry =>
        simp only [List.getElem?_cons_zero, Option.some.injEq] at e1 e2
        subst e1 e2
        cases qx with
        | @cons _ _ d dx q1 qx =>
          cases qy with
          | @cons _ _ d2 dy q2 qy =>
            have I2 : Inv X pins σ (upd H1 a (.tup [v, v2])) { s with heap := h', toks := tk } := I1.take (h' := h') (t' := tk) (fun b ob _ e => e) (I0.fpOk hb hnone)
              ⟨by show 2 ≤ sizeLine; decide, [x', y'], .cons r1 (.cons r2 .nil), _, e3, rfl, _, rfl⟩
            have x1 : Ext F1 H1 (upd F1 a (.tup [v, v2])) (upd H1 a (.tup [v, v2])) := Ext.newT sb hnone
            obtain ⟨hr1, hr2⟩ := List.pairwise_cons.mp hr
            obtain ⟨F2, H2, I3, x2, g, r⟩ := take_pairs I0 as vx vy ux uy dx dy _ _ I2 x1.sub hr2 (fun c hc => by
              obtain ⟨c1, c2⟩ := hn c (List.mem_cons_of_mem _ hc)
              exact ⟨c1, by rw [upd_ne (Nat.ne_of_gt (hr1 c hc))]; exact c2⟩) (fun j c hj => by
              obtain ⟨x, y, k1, k2, k3⟩ := hp (j + 1) c (by simpa using hj)
              exact ⟨x, y, by simpa using k1, by simpa using k2, k3⟩) rx ry (qx.mono x1.mono) (qy.mono x1.mono) (by simp only [List.length_cons] at hl; omega)
            refine ⟨F2, H2, I3, x1.trans x2, fun b hb' => ?_, .cons (.tup (.of (x2.mono _ _ upd_same)) (.cons (q1.mono (x1.mono.trans x2.mono)) (.cons (q2.mono (x1.mono.trans x2.mono)) .nil))) r⟩
            simp only [List.mem_cons, not_or] at hb'
            rw [g b hb'.2, upd_ne hb'.1]
theorem vals_refs : ∀ as : List Addr, Vals (as.map V.ref) (as.map Value.ref)
  | [] => .nil
  | a :: as => .cons rfl (vals_refs as)
/-- list(zip(xs, ys)) -/
def dZipL (tr : DA) : DE := fun ρ Q => tr ρ fun ds => match ds with
  | [.lst xs, .lst ys] => Q (.lst (zipD xs ys))
  | _ => False
theorem pdo_zipL {X : Cx} {e e2 : Expr} {tr : DA} {p p2 q pos : Pos} (hm : X.mg "list" = none) (hm2 : X.mg "zip" = none) (ha : PDA X [e, e2] tr) (hg : Gl X "list" := by rfl) (hg2 : Gl X "zip" := by rfl) (hc : X.calm = true := by rfl)
    (hs : starEach [e, e2] X.env = (false, eval e X.env) :: starEach [e2] X.env := by rfl) (hpl : (backTo q (starEach [e2] X.env)).any (·.1) = false := by rfl) : PDo X (.Call (.Name "list" p) [.Call (.Name "zip" p2) [e, e2] [] q] [] pos) (dZipL tr) := by
  refine ⟨fun pins s σ H Q I ⟨ρ, F, Q0, sb, en, ht, k⟩ => ?_⟩
  refine Call_ (ld_blt I hg hm PyProof.Rows.boot_list ?_)
  refine PyProof.Rows.callWith_type1 (PyProof.Rows.args_cons ?_ rfl) rfl rfl
  have hrun := ha.run q pins s σ H (fun vs H1 => ∃ F1 xs ys, Ext F H F1 H1 ∧ RpA X.K F1 vs [.lst xs, .lst ys] ∧ Q0 (.lst (zipD xs ys))) I ⟨ρ, F, _, sb, en, ht, fun vs H1 F1 ds x1 r q => by
    split at q
    · exact ⟨F1, _, _, x1, r, q⟩
    · exact q.elim⟩
  refine Call_ (ld_blt I hg2 hm2 PyProof.Rows.boot_zip (PyProof.Rows.callWith_type1 (thn hrun fun us s1 ⟨vs, H1, I1, r1, F1, xs, ys, x1, rr, q1⟩ => ?_) hs hpl))
  cases rr with
  | cons ra rb =>
  cases rb with
  | cons rb rc =>
  cases rc
  cases ra with
  | @lst a vx _ ha1 ra =>
  cases rb with
  | @lst b vy _ hb1 rb =>
  obtain ⟨u1, u2, rfl, e1, e2'⟩ := vals2 r1
  cases (show u1 = Value.ref a from e1)
  cases (show u2 = Value.ref b from e2')
  obtain ⟨ix, rx, px, hzx⟩ := I1.list (.of (x1.sub.lst ha1))
  obtain ⟨iy, ry, py, hzy⟩ := I1.list (.of (x1.sub.lst hb1))
  refine call_zip_2 px.isList py.isList fun h' z1 z2 z3 z4 z5 hsz hk => ?_
  refine PyProof.Rows.args_nil ?_
  have I2 : Inv X pins σ H1 { s1 with heap := h' } := I1.kept (t' := s1.toks) hk
  obtain ⟨o1, g1, _⟩ := id px.isList
  obtain ⟨o2, g2, _⟩ := id py.isList
  have la : a < s1.heap.objs.size := Heap.lt_size g1
  have lb : b < s1.heap.objs.size := Heap.lt_size g2
  generalize hN : s1.heap.objs.size = N at *
  have D : ZipApart (N + 4) (N + 2) (N + 3) N (N + 1) a b := by
    have l1 : ∀ i, a ≠ N + i := fun i => Nat.ne_of_lt (Nat.lt_of_lt_of_le la (Nat.le_add_right _ _))
    have l2 : ∀ i, b ≠ N + i := fun i => Nat.ne_of_lt (Nat.lt_of_lt_of_le lb (Nat.le_add_right _ _))
    exact ⟨by simp, by simp, Nat.ne_of_lt (by simp), by simp, by simp, by simp, by simp, by simp, by simp, by simp, l1 4, l1 3, l1 0, l1 1, l2 4, l2 3, l2 0, l2 1⟩
  have hl : (as : List Addr) → as.length = min ix.toArray.size iy.toArray.size → as.length = min ix.length iy.length := fun as h => by simpa using h
  refine call_listZ (s := { s1 with heap := h' }) (A := X.A) (I1.ok.hd hc) D rfl ?_ ?_ z1 z2 z3 z4 z5 (px.isList.at fun o e => hk _ _ e) (py.isList.at fun o e => hk _ _ e) fun h2 tk acc c as hk2 hS hlen hG hacc => ?_
  · have := rx.length
    rw [List.size_toArray, List.size_toArray]
    exact Nat.le_trans (Nat.min_le_left _ _) (by omega)
  · show N + 4 < h'.objs.size ∧ N + 2 < h'.objs.size ∧ N + 3 < h'.objs.size ∧ N < h'.objs.size ∧ N + 1 < h'.objs.size ∧ a < h'.objs.size ∧ b < h'.objs.size
    rw [hsz]
    refine ⟨by simp, by simp, by simp, by simp, by simp, Nat.lt_of_lt_of_le la (Nat.le_add_right _ _), Nat.lt_of_lt_of_le lb (Nat.le_add_right _ _)⟩
  · have old : ∀ b' o, s1.heap.get? b' = some o → h2.get? b' = some o := fun b' o e => by
      have lt : b' < N := hN ▸ Heap.lt_size e
      have ne : ∀ i, b' ≠ N + i := fun i => Nat.ne_of_lt (Nat.lt_of_lt_of_le lt (Nat.le_add_right _ _))
      exact hk2 b' o (ne 4) (ne 3) (ne 0) (ne 1) (hk _ _ e)
    have I3 : Inv X pins σ H1 { s1 with heap := h2, toks := tk } := I1.kept old
    have big : s1.heap.objs.size ≤ h'.objs.size := by rw [hN, hsz]; exact Nat.le_add_right _ _
    have above : ∀ c ∈ as, h'.objs.size + 1 ≤ c := hG.above
    have fresh : ∀ c ∈ as, s1.heap.objs.size ≤ c ∧ H1 c = none := fun c hc' => by
      have l : s1.heap.objs.size ≤ c := Nat.le_trans big (Nat.le_trans (Nat.le_succ _) (above c hc'))
      exact ⟨l, I1.hok.fresh l⟩
    obtain ⟨F2, H2, I4, x2, g, r⟩ := take_pairs I1 as vx vy ix iy xs ys F1 H1 I3 x1.sub hG.rise fresh (fun j c e => by
      obtain ⟨x, y, k1, k2, k3⟩ := hG.pairs j c e
      exact ⟨x, y, by simpa using k1, by simpa using k2, k3⟩) rx ry ra rb (hl as hlen)
    have hL : H1 h'.objs.size = none := I1.hok.fresh big
    have nL : h'.objs.size ∉ as := fun z => absurd (above _ z) (Nat.not_succ_le_self _)
    have hL2 : H2 h'.objs.size = none := by rw [g _ nL]; exact hL
    have hv : Vals (as.map V.ref) acc.toList := by
      rw [hacc]
      exact vals_refs as
    have zl : (as.map V.ref).length ≤ sizeLine := by
      rw [List.length_map, hl as hlen, ← rx.length]
      exact Nat.le_trans (Nat.min_le_left _ _) hzx
    have I5 := I4.take (h' := h2) (t' := tk) (it := h'.objs.size) (o := .lst (as.map V.ref)) (fun b ob _ e => e) (I1.fpOk big hL2) ⟨zl, acc.toList, c, hv, by rw [Array.toArray_toList]; exact hS⟩
    exact ⟨.ref h'.objs.size, _, I5, rfl, k _ _ F2 _ ((x1.trans x2).trans (Ext.newO x2.sub hL2)) (OwnV.lst (x1.noneBack sb hL) (x2.sub.none hL2) upd_same r) q1⟩
end DV

namespace DV
open PySem PySem.Spec PyProof.Rows L2
/-! ### walks over dicts whose keys are texts and numbers -/
theorem flat_of {K : PySem.W.Frag} {F : Hp} {v : V} {kvs : List (D × D)} (r : Rp K F v (.dic kvs)) (h : ∀ q ∈ kvs, q.1.flt = true) : ∃ (a : Addr) (o : Obj) (ks : List (L2.Key × V)), v = .ref a ∧ F a = some (.frz o (.dK ks)) ∧ RpA K F (ks.map (·.2)) (kvs.map (·.2)) ∧ kvs.map (·.1) = ks.map (fun p => keyD p.1) := by
  cases r with
  | dic h1 r e => exact ⟨_, _, _, rfl, h1, r, e⟩
  | dicT _ k0 _ k2 _ _ =>
    exfalso
    rcases kvs with _ | ⟨kv, kvs⟩
    · exact k0 rfl
    · have a1 := h kv List.mem_cons_self
      rw [kok_flt (k2 kv List.mem_cons_self)] at a1
      cases a1
theorem rp_keyD {K : PySem.W.Frag} {F : Hp} (k : L2.Key) : Rp K F (kV k) (keyD k) := by
  rcases k with i | x
  · exact .int i
  · exact .str x
theorem it_keys {K : PySem.W.Frag} {F : Hp} {a : Addr} {o : Obj} {ks : List (L2.Key × V)} {kvs : List (D × D)} (h : F a = some (.frz o (.dK ks))) (e : kvs.map (·.1) = ks.map (fun p => keyD p.1)) : ItOk K (Itk a o ks) F (kvs.map (·.1)) := fun F' H' m s' i => by
  have h' : H' a = some (.frz o (.dK ks)) := s'.frz (m _ _ h)
  have hl : (kvs.map (·.1)).length = ks.length := by rw [e, List.length_map]
  rw [hl]
  refine ⟨fun hi => ⟨⟨h', hi⟩, fun x H'' hy => ?_⟩, fun hi => ⟨h', hi⟩⟩
  obtain ⟨rfl, k, v, e1, rfl⟩ := hy
  refine ⟨F', keyD k, .refl s', ?_, rp_keyD k⟩
  rw [e, List.getElem?_map, e1]; rfl
theorem it_vals {K : PySem.W.Frag} {F : Hp} {a : Addr} {o : Obj} {ks : List (L2.Key × V)} {ds : List D} (h : F a = some (.frz o (.dK ks))) (r : RpA K F (ks.map (·.2)) ds) : ItOk K (Itd a o ks) F ds := fun F' H' m s' i => by
  have h' : H' a = some (.frz o (.dK ks)) := s'.frz (m _ _ h)
  have hl : ds.length = ks.length := by rw [← r.length, List.length_map]
  rw [hl]
  refine ⟨fun hi => ⟨⟨h', hi⟩, fun x H'' hy => ?_⟩, fun hi => ⟨h', hi⟩⟩
  obtain ⟨rfl, k, e1⟩ := hy
  have hi' : i < ds.length := by
    have := (List.getElem?_eq_some_iff.mp e1).1
    omega
  obtain ⟨v, ev, rv⟩ := r.get (List.getElem?_eq_getElem hi')
  rw [List.getElem?_map, e1] at ev
  have := Option.some.inj ev
  dsimp only at this
  subst this
  exact ⟨F', _, .refl s', List.getElem?_eq_getElem hi', rv.mono m⟩
theorem it_items {K : PySem.W.Frag} {F : Hp} {a : Addr} {o : Obj} {ks : List (L2.Key × V)} {kvs : List (D × D)} (h : F a = some (.frz o (.dK ks))) (r : RpA K F (ks.map (·.2)) (kvs.map (·.2))) (e : kvs.map (·.1) = ks.map (fun p => keyD p.1)) : ItOk K (Iti a o ks) F (kvs.map tup2) := fun F' H' m s' i => by
  have h' : H' a = some (.frz o (.dK ks)) := s'.frz (m _ _ h)
  have hl : kvs.length = ks.length := by
    have := congrArg List.length e
    simpa using this
  rw [List.length_map, hl]
  refine ⟨fun hi => ⟨⟨h', hi⟩, fun x H'' hy => ?_⟩, fun hi => ⟨h', hi⟩⟩
  obtain ⟨T, k, v, e1, rfl, hT, rfl⟩ := hy
  have hi' : i < kvs.length := by omega
  obtain ⟨u, eu, ru⟩ := r.get (i := i) (d := kvs[i].2) (by rw [List.getElem?_map, List.getElem?_eq_getElem hi']; rfl)
  rw [List.getElem?_map, e1] at eu
  have := Option.some.inj eu
  dsimp only at this
  subst this
  have ek : kvs[i].1 = keyD k := by
    have := congrArg (·[i]?) e
    simp only [List.getElem?_map, e1, List.getElem?_eq_getElem hi', Option.map_some, Option.some.injEq] at this
    exact this
  have x1 := Ext.newT (xs := [kV k, v]) s' hT
  refine ⟨_, tup2 kvs[i], x1, by rw [List.getElem?_map, List.getElem?_eq_getElem hi']; rfl, ?_⟩
  unfold tup2
  rw [ek]
  exact .tup (.of upd_same) (.cons (rp_keyD k) (.cons (ru.mono (m.trans x1.mono)) .nil))
def iKeysD (t : DE) : DI := fun ρ Q => t ρ fun d => match d with
  | .dic kvs => (∀ q ∈ kvs, q.1.flt = true) ∧ Q (kvs.map (·.1))
  | _ => False
def iValsD (t : DE) : DI := fun ρ Q => t ρ fun d => match d with
  | .dic kvs => (∀ q ∈ kvs, q.1.flt = true) ∧ Q (kvs.map (·.2))
  | _ => False
def iItemsD (t : DE) : DI := fun ρ Q => t ρ fun d => match d with
  | .dic kvs => (∀ q ∈ kvs, q.1.flt = true) ∧ Q (kvs.map tup2)
  | _ => False
section
variable {X : Cx} {tg e : Expr} {t : DE} {apos cpos : Pos}
theorem pdi_keys (h : PD X e t) : PDI X tg e (iKeysD t) := PI.impD (pi_keys h) fun σ H R ⟨ρ, F, Q0, s, en, ht, k⟩ =>
  ⟨ρ, F, _, s, en, ht, fun v H1 F1 d x1 r q => by
    cases d <;> first | exact q.elim | skip
    obtain ⟨a, o, ks, rfl, h1, r1, e1⟩ := flat_of r q.1
    exact ⟨a, o, rfl, .inl ⟨ks, x1.sub.frz h1, k _ H1 F1 _ x1 (it_keys h1 e1) q.2⟩⟩⟩
theorem pdi_vals (h : PD X e t) (hbase : attributeBase e "values" X.env (eval e X.env) = eval e X.env := by rfl) (hline : (apos.endLine == cpos.line) = true := by rfl) : PDI X tg (.Call (.Attribute e "values" apos) [] [] cpos) (iValsD t) := PI.impD (pi_values h hbase hline) fun σ H R ⟨ρ, F, Q0, s, en, ht, k⟩ =>
  ⟨ρ, F, _, s, en, ht, fun v H1 F1 d x1 r q => by
    cases d <;> first | exact q.elim | skip
    obtain ⟨a, o, ks, rfl, h1, r1, e1⟩ := flat_of r q.1
    exact ⟨a, o, ks, rfl, x1.sub.frz h1, k _ H1 F1 _ x1 (it_vals h1 r1) q.2⟩⟩
theorem pdi_items {elts : List Expr} {kk : Nat} {tpos : Pos} (h : PD X e t) (hbase : attributeBase e "items" X.env (eval e X.env) = eval e X.env := by rfl) (hline : (apos.endLine == cpos.line) = true := by rfl) : PDI X (.Tuple elts kk tpos) (.Call (.Attribute e "items" apos) [] [] cpos) (iItemsD t) := PI.impD (pi_items h hbase hline) fun σ H R ⟨ρ, F, Q0, s, en, ht, k⟩ =>
  ⟨ρ, F, _, s, en, ht, fun v H1 F1 d x1 r q => by
    cases d <;> first | exact q.elim | skip
    obtain ⟨a, o, ks, rfl, h1, r1, e1⟩ := flat_of r q.1
    exact ⟨a, o, ks, rfl, x1.sub.frz h1, k _ H1 F1 _ x1 (it_items h1 r1 e1) q.2⟩⟩
/-- dict(d): a copy -/
def dictK : DF := fun ds Q => match ds with
  | [.dic kvs] => (∀ q ∈ kvs, q.1.flt = true) ∧ Q (.dic kvs)
  | _ => False
theorem cdo_copy {K : PySem.W.Frag} : CallDo K (fun xs H Q => ∃ (a : Addr) (kvs : List (L2.Key × V)), xs = [.ref a] ∧ Rd H a (.dK kvs) ∧ ∀ p, H p = none → Q (.ref p) (upd H p (.dK kvs))) dictK := fun F H xs ds Q0 Q s r q k => by
  unfold dictK at q
  split at q
  · cases r with
    | cons r1 r2 =>
      cases r2
      obtain ⟨a, o, ks, rfl, h1, r1, e1⟩ := flat_of r1 q.1
      exact ⟨a, ks, rfl, .inr ⟨o, s.frz h1⟩, fun p hp => k _ _ F (.dic _) (Ext.newO s hp) (.inr ⟨p, rfl, hp, s.none hp, Or.inl ⟨ks, upd_same, r1, e1⟩⟩) q.2⟩
  · exact q.elim
/-! ### x in a tuple -/
def rInT (K : PySem.W.Frag) : R2 := fun x y H Q => ∃ d ds, Dp K H x d ∧ Dp K H y (.tuple ds) ∧ SeqAt.shaped d = true ∧ SeqAt.shaped (.tuple ds) = true ∧ Q (.bl (ds.any fun z => PyData.eqv z d)) H
theorem op_inT (hu : X.A.units + 65 < cLine) : OpR X (compareOp .In) (rInT X.K) := by
  intro pins s σ H x y v u Q I rx ry h
  obtain ⟨d, ds, hd, he, sd, se, q⟩ := h
  obtain ⟨as, r1⟩ := Dp.reads I d x v hd rx
  obtain ⟨bs, r2⟩ := Dp.reads I (.tuple ds) y u he ry
  exact SeqAt.in_tuple_reads r2 r1 (SeqAt.canLay_of_shaped se) (SeqAt.canLay_of_shaped sd) (room_in_shaped sd hu) ⟨.bl _, H, I, rfl, q⟩
def inTD : D2 := fun x y Q => match y with
  | .tup ds => x.lay = true ∧ (D.tup ds).lay = true ∧ Q (.bl (ds.any fun z => D.eqb z x))
  | _ => False
theorem od_inT {K : PySem.W.Frag} : OpD K (rInT K) inTD := fun F H x y dx dy Q0 Q s rx ry q k => by
  cases dy <;> first | exact q.elim | skip
  rename_i ds
  obtain ⟨h1, h2, q⟩ := q
  have f2 : D.flatOks ds = true := by have := (lay_and h2).1; simpa only [D.flatOk] using this
  refine ⟨dx.toP, D.toPs ds, rx.dp s (lay_and h1).1, ry.dp s (lay_and h2).1, (lay_and h1).2, (lay_and h2).2, ?_⟩
  rw [any_toP (lay_and h1).1 ds f2]
  exact k _ H F _ (.refl s) (.bl _) q
end
end DV

namespace DV
open PySem PySem.Spec PyProof.Rows L2
/-! ### comprehensions with two for parts -/
def Slot.fg : Slot → Slot
  | .own _ => .un
  | s => s
def fgs (ρ : List Slot) : List Slot := ρ.map Slot.fg
theorem fg_own {s : Slot} {d : D} : s.fg ≠ .own d := by cases s <;> exact fun z => nomatch z
theorem EnvOk.fgM {K : PySem.W.Frag} {F F' H H' : Hp} {σ : St} {ρ : List Slot} (h : EnvOk K F H σ ρ) (m : Same F F') : EnvOk K F' H' σ (fgs ρ) := by
  refine ⟨by simp [fgs, h.len], fun j s e => ?_, fun a b p d' e' hab h1 h2 h3 h4 => ?_⟩
  · unfold fgs at e
    rw [List.getElem?_map] at e
    obtain ⟨s0, e0, rfl⟩ := Option.map_eq_some_iff.mp e
    obtain ⟨x, ex, ok⟩ := h.at_ j s0 e0
    refine ⟨x, ex, ?_⟩
    cases s0 with
    | un => exact True.intro
    | own d => exact True.intro
    | v d =>
      obtain ⟨v, e4, r4⟩ := ok
      exact ⟨v, e4, r4.mono m⟩
    | tg u d => exact ⟨ok.1, ok.2.mono m⟩
  · unfold fgs at h2
    rw [List.getElem?_map] at h2
    obtain ⟨s0, _, z⟩ := Option.map_eq_some_iff.mp h2
    exact absurd z fg_own
def lcA (g : DG) (tt : DT) (te : DE) (ρ : List Slot) : List D → List D → (List D → Prop) → Prop
  | [], acc, Q => Q acc
  | d :: ds, acc, Q => g d ρ fun ρ2 => tt ρ2 fun b => if b = true then te ρ2 fun y => acc.length < sizeLine ∧ lcA g tt te ρ ds (acc ++ [y]) Q else lcA g tt te ρ ds acc Q
def lc2D (g : DG) (tt : DT) (it1 : DI) (g1 : DG) (tt1 : DT) (te : DE) (vs1 : List Nat) (ρ : List Slot) : List D → List D → (D → Prop) → Prop
  | [], acc, Q => Q (.lst acc)
  | d :: ds, acc, Q => g d ρ fun ρ2 => tt ρ2 fun b => if b = true then it1 ρ2 fun ds1 => lcA g1 tt1 te (wipeD (fgs ρ2) vs1) ds1 acc fun acc' => lc2D g tt it1 g1 tt1 te vs1 ρ ds acc' Q else lc2D g tt it1 g1 tt1 te vs1 ρ ds acc Q
def dLc2 (it : DI) (g : DG) (tt : DT) (it1 : DI) (g1 : DG) (tt1 : DT) (te : DE) (vs vs1 : List Nat) : DE := fun ρ Q => it ρ fun ds => lc2D g tt it1 g1 tt1 te vs1 (wipeD ρ vs) ds [] Q
theorem wipe_wipe (vs : List Nat) (σ : St) : L2.wipe (L2.wipe σ vs) vs = L2.wipe σ vs := by
  have aux : ∀ (us : List Nat), (∀ u ∈ us, u ∈ vs) → L2.wipe (L2.wipe σ us) vs = L2.wipe σ vs := by
    intro us
    induction us with
    | nil => intro _; rfl
    | cons u r ih =>
      intro hu
      show L2.wipe ((L2.wipe σ r).set u none) vs = _
      rw [wipe_at (hu u List.mem_cons_self)]
      exact ih fun v hv => hu v (List.mem_cons_of_mem _ hv)
  exact aux vs fun u hu => hu
section
variable {X : Cx} {elt tg iter tg1 iter1 : Expr} {ifs ifs1 : List Expr} {scope : Scope} {own : List (Str × Nat)} {vs1 : List Nat} {pos : Pos} {it it1 : DI} {g g1 : TG} {g' g1' : DG} {tt tt1 : DT} {te : DE}
theorem lf_lc2 (hG : RelG X.K (own.map (·.2)) g g') (hG1 : RelG X.K vs1 g1 g1') : ∀ σ H Q, lfEo X.K (dLc2 it g' tt it1 g1' tt1 te (own.map (·.2)) vs1) σ H Q → tLc2 (lfI X.K it) g (lfT X.K tt) (lfI X.K it1) g1 (lfT X.K tt1) (lfE X.K te) (own.map (·.2)) vs1 σ H Q := fun σ H Q ⟨ρ, F, Q0, s, en, ht, k⟩ => by
  refine ⟨ρ, F, _, s, en, ht, fun J H1 F1 ds x1 io q Dd hD => ?_⟩
  have en1 := en.mono x1
  have hF1 := x1.sub.none hD
  let G : List D → List D → Prop := fun l acc => lc2D g' tt it1 g1' tt1 te vs1 (wipeD ρ (own.map (·.2))) l acc Q0
  -- the list as it stands
  let At : Hp → Hp → List D → Prop := fun F' H' acc => ∃ xs, Ext F1 H1 F' H' ∧ F' Dd = none ∧ H' Dd = some (.lst xs) ∧ RpA X.K F' xs acc
  refine ⟨fun i m H' => m = ds.length - i ∧ i ≤ ds.length ∧ ∃ F' acc, At F' H' acc ∧ G (ds.drop i) acc,
    ⟨ds.length, rfl, Nat.zero_le _, F1, [], ⟨[], Ext.newO x1.sub hD, hF1, upd_same, .nil⟩, q⟩, fun i m H' hW => ?_⟩
  obtain ⟨rfl, hle, F', acc, ⟨xs, x2, hF', hH', ra⟩, q'⟩ := hW
  obtain ⟨h1, h2⟩ := io F' H' x2.mono x2.sub i
  by_cases hi : i < ds.length
  · obtain ⟨go, hy⟩ := h1 hi
    refine .inr ⟨go, fun H'' => ∃ F' acc, At F' H'' acc ∧ G (ds.drop (i + 1)) acc, fun H'' hN => ⟨ds.length - (i + 1), by omega, rfl, hi, hN⟩, fun x H2 hyx => ?_⟩
    obtain ⟨F2, d, x3, ed, rd⟩ := hy x H2 hyx
    rw [drop_cons ed] at q'
    have x23 := x2.trans x3
    have D2 := x3.keep Dd _ hF' hH'
    refine hG _ _ _ _ _ _ _ _ _ _ _ (Sta.empty x23.sub ((en1.mono x23).wipe _)) rd q' fun σ3 ρ3 s3 hw q3 => ⟨hw.trans (wipe_wipe _ _), ρ3, F2, _, s3.ext.sub, s3.env, q3, fun b H3 F3 x4 q4 => ?_⟩
    have x24 := x23.trans x4
    have D3 := x4.keep Dd _ D2.2 D2.1
    have ra3 := ra.mono (x3.mono.trans x4.mono)
    cases b with
    | false => exact iteF ⟨F3, acc, ⟨xs, x24, D3.2, D3.1, ra3⟩, q4⟩
    | true =>
      have en3 := s3.env.mono x4
      refine iteT ⟨ρ3, F3, _, x4.sub, en3, q4, fun J1 H4 F4 ds1 x5 io1 q5 => ?_⟩
      have x25 := x24.trans x5
      have D4 := x5.keep Dd _ D3.2 D3.1
      refine ⟨fun j kk H' => kk = ds1.length - j ∧ j ≤ ds1.length ∧ ∃ F' acc, At F' H' acc ∧ Same F4 F' ∧ lcA g1' tt1 te (wipeD (fgs ρ3) vs1) (ds1.drop j) acc (G (ds.drop (i + 1))),
        ⟨ds1.length, rfl, Nat.zero_le _, F4, acc, ⟨xs, x25, D4.2, D4.1, ra3.mono x5.mono⟩, Same.refl F4, q5⟩, fun j kk H' hW1 => ?_⟩
      obtain ⟨rfl, hle1, F', acc, ⟨xs, y2, hF', hH', ra⟩, mF, qj⟩ := hW1
      obtain ⟨g1', g2'⟩ := io1 F' H' mF y2.sub j
      by_cases hj : j < ds1.length
      · obtain ⟨go1, hy1⟩ := g1' hj
        refine .inr ⟨go1, fun H'' => ∃ F' acc, At F' H'' acc ∧ Same F4 F' ∧ lcA _ tt1 te (wipeD (fgs ρ3) vs1) (ds1.drop (j + 1)) acc (G (ds.drop (i + 1))), fun H'' hN => ⟨ds1.length - (j + 1), by omega, rfl, hj, hN⟩, fun x H5 hyx1 => ?_⟩
        obtain ⟨F5, d1, y3, ed1, rd1⟩ := hy1 x H5 hyx1
        rw [drop_cons ed1] at qj
        have y23 := y2.trans y3
        have E2 := y3.keep Dd _ hF' hH'
        have enj : EnvOk X.K F5 H5 σ3 (fgs ρ3) := en3.fgM (x5.mono.trans (mF.trans y3.mono))
        refine hG1 _ _ _ _ _ _ _ _ _ _ _ (Sta.empty y23.sub (enj.wipe _)) rd1 qj fun σ4 ρ4 s4 hw4 q6 => ⟨hw4.trans (wipe_wipe _ _), ρ4, F5, _, s4.ext.sub, s4.env, q6, fun b H6 F6 y4 q7 => ?_⟩
        have y24 := y23.trans y4
        have E3 := y4.keep Dd _ E2.2 E2.1
        have ra6 := ra.mono (y3.mono.trans y4.mono)
        cases b with
        | false => exact iteF ⟨F6, acc, ⟨xs, y24, E3.2, E3.1, ra6⟩, mF.trans (y3.mono.trans y4.mono), q7⟩
        | true =>
          refine iteT ⟨ρ4, F6, _, y4.sub, s4.env.mono y4, q7, fun y H7 F7 dy y5 ry q8 => ?_⟩
          have y25 := y24.trans y5
          have E4 := y5.keep Dd _ E3.2 E3.1
          refine ⟨xs, E4.1, by rw [ra.length]; exact q8.1, F7, acc ++ [dy], ⟨xs ++ [y], ⟨y25.mono, fun a o e z => ?_, Ext.own y25.sub E4.2⟩, E4.2, upd_same, (ra6.mono y5.mono).append (.cons ry .nil)⟩, mF.trans (y3.mono.trans (y4.mono.trans y5.mono)), q8.2⟩
          rw [upd_ne (ne_of_none z hD)]
          exact y25.keep a o e z
      · refine .inl ⟨g2' (by omega), ?_⟩
        have e : ds1.drop j = [] := List.drop_eq_nil_of_le (by omega)
        rw [e] at qj
        exact ⟨F', acc, ⟨xs, y2, hF', hH', ra⟩, qj⟩
  · refine .inl ⟨h2 (by omega), ?_⟩
    have e : ds.drop i = [] := List.drop_eq_nil_of_le (by omega)
    rw [e] at q'
    exact k _ _ _ _ (x1.trans x2) (OwnV.lst (x1.noneBack s hD) hF' hH' ra) q'
theorem pdo_lc2 (hG : RelG X.K (own.map (·.2)) g g') (hG1 : RelG X.K vs1 g1 g1') (hc : X.calm = true) (hN : X.N.Nodup) (hi : PDI X tg iter it) (ok : BlkOk X.N X.env.scope scope own) (hv : ∀ i ∈ vs1, i ∈ own.map (·.2))
    (hg : ∀ (s : Shared) (H : Hp) (C : Addr) (cl : List (Str × Addr)) (fp : List Addr), PG (X.blk s H scope (compEnvC scope cl C X.env) fp) tg g) (ht : ∀ (s : Shared) (H : Hp) (C : Addr) (cl : List (Str × Addr)) (fp : List Addr), PTs (X.blk s H scope (compEnvC scope cl C X.env) fp) ifs (lfT X.K tt))
    (hi1 : ∀ (s : Shared) (H : Hp) (C : Addr) (cl : List (Str × Addr)) (fp : List Addr), PI (X.blk s H scope (compEnvC scope cl C X.env) fp) tg1 iter1 (lfI X.K it1))
    (hg1 : ∀ (s : Shared) (H : Hp) (C : Addr) (cl : List (Str × Addr)) (fp : List Addr), PG (X.blk s H scope (compEnvC scope cl C X.env) fp) tg1 g1) (ht1 : ∀ (s : Shared) (H : Hp) (C : Addr) (cl : List (Str × Addr)) (fp : List Addr), PTs (X.blk s H scope (compEnvC scope cl C X.env) fp) ifs1 (lfT X.K tt1))
    (he : ∀ (s : Shared) (H : Hp) (C : Addr) (cl : List (Str × Addr)) (fp : List Addr), PE (X.blk s H scope (compEnvC scope cl C X.env) fp) elt (lfE X.K te)) (hs : ∀ x, foldedSetIterable iter X.env x = pure x := by intro _; rfl) (hs1 : ∀ env x, foldedSetIterable iter1 env x = pure x := by intro _ _; rfl) :
    PDo X (.ListComp elt [⟨tg, iter, ifs, 0⟩, ⟨tg1, iter1, ifs1, 0⟩] scope pos) (dLc2 it g' tt it1 g1' tt1 te (own.map (·.2)) vs1) := (pe_lc2 hc hN hi ok hv hg ht hi1 hg1 ht1 he hs hs1).impD (lf_lc2 hG hG1)
end
end DV

namespace DV
open PySem PySem.Spec PyProof.Rows L2
/-! ### own lists: turned about, emptied, handed from name to name -/
theorem RpA.reverse {K : PySem.W.Frag} {F : Hp} : ∀ {vs : List V} {ds : List D}, RpA K F vs ds → RpA K F vs.reverse ds.reverse
  | _, _, .nil => .nil
  | _, _, .cons h r => by
    rw [List.reverse_cons, List.reverse_cons]
    exact (RpA.reverse r).append (.cons h .nil)
def sRev (i : Nat) : DS := fun N ρ => match ρ[i]? with
  | some (.own (.lst ds)) => N.nx (ρ.set i (.own (.lst ds.reverse)))
  | _ => False
def sClr (i : Nat) : DS := fun N ρ => match ρ[i]? with
  | some (.own (.lst ds)) => N.nx (ρ.set i (.own (.lst [])))
  | _ => False
def sIns (i : Nat) (ti tv : DE) : DS := fun N ρ => match ρ[i]? with
  | some (.own (.lst ds)) => ti ρ fun k => match k with
    | .int j => tv ρ fun d => (0 ≤ j ∧ j < 2 ^ 63 ∧ ds.length < sizeLine) ∧ N.nx (ρ.set i (.own (.lst (ds.take j.toNat ++ [d] ++ ds.drop j.toNat))))
    | _ => False
  | _ => False
def sMove (i j : Nat) : DS := fun N ρ => match ρ[j]? with
  | some (.own d) => i ≠ j ∧ N.nx ((ρ.set j .un).set i (.own d))
  | _ => False
section
variable {X : Cx} {o e e2 : Expr} {t ti tv : DE} {apos cpos pos : Pos}
theorem pds_rev {i : Nat} (h : PE X (.Call (.Attribute o "reverse" apos) [] [] cpos) (tBM0 X.K "list" rReverse (tVar i)))
    (hs : swapsWith (.Call (.Attribute o "reverse" apos) [] [] cpos) none pos.line X.env = pure false := by rfl) : PDS X (.Expr (.Call (.Attribute o "reverse" apos) [] [] cpos) pos) (sRev i) :=
  (ps_expr h hs).impD fun N σ H ⟨F0, H0, G, ρ, M, ⟨F, so⟩, ht, k⟩ => by
    unfold sRev at ht
    cases hi : ρ[i]? with
    | none => rw [hi] at ht; exact ht.elim
    | some sl =>
      rw [hi] at ht
      cases sl with
      | un => exact ht.elim
      | v d => exact ht.elim
      | tg u d => exact ht.elim
      | own d =>
        cases d <;> first | exact ht.elim | skip
        obtain ⟨x, e1, p, e2, hF, xs, hp, r⟩ := so.env.at_ i _ hi
        subst e2
        exact ⟨_, e1, .inl ⟨rfl, _, .inl (.inl hp)⟩, p, xs, rfl, rfl, hp, k.nx _ _ _ ⟨F, so.putOwn e1 hi r.reverse⟩ ht⟩
theorem pds_clr {i : Nat} (h : PE X (.Call (.Attribute o "clear" apos) [] [] cpos) (tBM0 X.K "list" rClear (tVar i)))
    (hs : swapsWith (.Call (.Attribute o "clear" apos) [] [] cpos) none pos.line X.env = pure false := by rfl) : PDS X (.Expr (.Call (.Attribute o "clear" apos) [] [] cpos) pos) (sClr i) :=
  (ps_expr h hs).impD fun N σ H ⟨F0, H0, G, ρ, M, ⟨F, so⟩, ht, k⟩ => by
    unfold sClr at ht
    cases hi : ρ[i]? with
    | none => rw [hi] at ht; exact ht.elim
    | some sl =>
      rw [hi] at ht
      cases sl with
      | un => exact ht.elim
      | v d => exact ht.elim
      | tg u d => exact ht.elim
      | own d =>
        cases d <;> first | exact ht.elim | skip
        obtain ⟨x, e1, p, e2, hF, xs, hp, r⟩ := so.env.at_ i _ hi
        subst e2
        exact ⟨_, e1, .inl ⟨rfl, _, .inl (.inl hp)⟩, p, xs, rfl, rfl, hp, k.nx _ _ _ ⟨F, so.putOwn e1 hi RpA.nil⟩ ht⟩
def rInsert : V → List V → Hp → VK → Prop := fun x vs H Q => ∃ (l : Addr) (xs : List V) (i : Int) (y : V), x = .ref l ∧ vs = [.int i, y] ∧ H l = some (.lst xs) ∧ xs.length < sizeLine ∧ 0 ≤ i ∧ i < 2 ^ 63 ∧ Q .non (upd H l (.lst (xs.take i.toNat ++ [y] ++ xs.drop i.toNat)))
theorem pds_ins {i : Nat} (h : PE X (.Call (.Attribute o "insert" apos) [e, e2] [] cpos) (tBM X.K "list" rInsert (tVar i) (tCons (lfE X.K ti) (tCons (lfE X.K tv) tNil))))
    (hs : swapsWith (.Call (.Attribute o "insert" apos) [e, e2] [] cpos) none pos.line X.env = pure false := by rfl) : PDS X (.Expr (.Call (.Attribute o "insert" apos) [e, e2] [] cpos) pos) (sIns i ti tv) :=
  (ps_expr h hs).impD fun N σ H ⟨F0, H0, G, ρ, M, ⟨F, so⟩, ht, k⟩ => by
    unfold sIns at ht
    cases hi : ρ[i]? with
    | none => rw [hi] at ht; exact ht.elim
    | some sl =>
      rw [hi] at ht
      cases sl with
      | un => exact ht.elim
      | v d => exact ht.elim
      | tg u d => exact ht.elim
      | own d =>
        cases d <;> first | exact ht.elim | skip
        rename_i ds
        obtain ⟨x, e1, p, e2, hF, xs, hp, r⟩ := so.env.at_ i _ hi
        subst e2
        refine ⟨_, e1, .inl ⟨rfl, _, .inl (.inl hp)⟩, so.lf ht fun v H' F' d so' rv q => ?_⟩
        cases d <;> first | exact q.elim | skip
        rename_i j
        cases rv
        refine so'.lf q fun v2 H2 F2 d2 so2 rv2 q2 => ?_
        obtain ⟨x, e3, p', e4, hF', xs', hp', r'⟩ := so2.env.at_ i _ hi
        rw [e1] at e3; cases e3; cases e4
        obtain ⟨⟨g1, g2, g3⟩, q2⟩ := q2
        refine ⟨p, xs', j, v2, rfl, rfl, hp', by rw [r'.length]; exact g3, g1, g2, ?_⟩
        exact k.nx _ _ _ ⟨F2, so2.putOwn e1 hi (((r'.take _).append (.cons rv2 .nil)).append (r'.drop _))⟩ q2
theorem pds_move {i j : Nat} {x : Str} {pos' : Pos} (hN : X.N.Nodup) (hi : X.N[i]? = some x) (hx : Loc X.env.scope x) (he : PE X e (tVar j)) (hs : swapsWith e (some (.Name x pos')) pos.line X.env = pure false := by rfl)
    (hf : X.fn x = true ∨ X.env.scope.names.lookup x = some .local := by first | exact .inl rfl | exact .inr rfl | assumption) : PDS X (.Assign [.Name x pos'] e pos) (sMove i j) := (ps_set hN hi hx he hs hf).impD fun N σ H ⟨F0, H0, G, ρ, M, ⟨F, so⟩, ht, k⟩ => by
  unfold sMove at ht
  cases hj : ρ[j]? with
  | none => rw [hj] at ht; exact ht.elim
  | some sl =>
    rw [hj] at ht
    cases sl with
    | un => exact ht.elim
    | v d => exact ht.elim
    | tg u d => exact ht.elim
    | own d =>
      obtain ⟨ne, ht⟩ := ht
      obtain ⟨y, e1, p, e2, hF, o⟩ := so.env.at_ j _ hj
      subst e2
      refine ⟨_, e1, k.nx _ _ _ ⟨F, so.bse, so.pin, so.ext, ⟨by simp [so.env.len], fun a sl ea => ?_, fun a b q d1 d2 hab h1 h2 h3 h4 => ?_⟩, fun a q d1 h1 h2 => ?_⟩ ht⟩
      · by_cases ha : a = i
        · subst ha
          have hl : a < ρ.length := by
            have := (List.getElem?_eq_some_iff.mp ea).1
            simpa using this
          rw [List.getElem?_set_self (by simpa using hl)] at ea
          cases ea
          exact ⟨_, by rw [List.getElem?_set_self (by rw [so.env.len]; exact hl)], p, rfl, hF, o⟩
        · rw [List.getElem?_set_ne (Ne.symm ha)] at ea ⊢
          by_cases haj : a = j
          · subst haj
            rw [List.getElem?_set_self (List.getElem?_eq_some_iff.mp hj).1] at ea
            cases ea
            exact ⟨_, e1, True.intro⟩
          · rw [List.getElem?_set_ne (Ne.symm haj)] at ea
            exact so.env.at_ a sl ea
      all_goals
        have src : ∀ {a : Nat} {q : Addr} {d1 : D}, (σ.set i (some (V.ref p)))[a]? = some (some (.ref q)) → ((ρ.set j Slot.un).set i (.own d))[a]? = some (.own d1) → (a = i ∧ q = p) ∨ (a ≠ i ∧ a ≠ j ∧ σ[a]? = some (some (.ref q)) ∧ ρ[a]? = some (.own d1)) := fun {a q d1} g1 g2 => by
          by_cases ha : a = i
          · subst ha
            have hl : a < σ.length := by
              have := (List.getElem?_eq_some_iff.mp g1).1
              simpa using this
            rw [List.getElem?_set_self hl] at g1
            cases g1
            exact .inl ⟨rfl, rfl⟩
          · rw [List.getElem?_set_ne (Ne.symm ha)] at g1 g2
            by_cases haj : a = j
            · subst haj
              rw [List.getElem?_set_self (List.getElem?_eq_some_iff.mp hj).1] at g2
              cases g2
            · rw [List.getElem?_set_ne (Ne.symm haj)] at g2
              exact .inr ⟨ha, haj, g1, g2⟩
      · rcases src h1 h2 with ⟨rfl, rfl⟩ | ⟨a1, a2, a3, a4⟩
        · rcases src h3 h4 with ⟨rfl, _⟩ | ⟨b1, b2, b3, b4⟩
          · exact hab rfl
          · exact so.env.sep b j _ _ _ b2 b3 b4 e1 hj
        · rcases src h3 h4 with ⟨rfl, rfl⟩ | ⟨b1, b2, b3, b4⟩
          · exact so.env.sep a j _ _ _ a2 a3 a4 e1 hj
          · exact so.env.sep a b q _ _ hab a3 a4 b3 b4
      · rcases src h1 h2 with ⟨rfl, rfl⟩ | ⟨a1, a2, a3, a4⟩
        · exact so.own j _ _ e1 hj
        · exact so.own a q _ a3 a4
end
def notBD : D2 := fun x y Q => match x, y with
  | .bl a, .bl b => Q (.bl (!decide (a = b)))
  | _, _ => False
theorem od_notB {K : PySem.W.Frag} : OpD K rNotB notBD := fun F H x y dx dy Q0 Q s rx ry q k => by
  cases rx <;> cases ry <;> first | exact q.elim | skip
  exact ⟨_, _, rfl, rfl, k _ H F _ (.refl s) (.bl _) q⟩
end DV

namespace DV
open PySem PySem.Spec PyProof.Rows L2

/-! ### own classes of exceptions: what the text must say -/
/-- the class at C: an exception over ValueError with a dict -/
def oexB (K : PySem.W.Frag) (C : Addr) : Bool :=
  (match K.lookup C with
    | some ⟨.type z, _, .cls cd, sl⟩ => decide (z = "type") && (match cd.mro with
      | .ref B :: bm => decide (B = C) && (PySem.HandSPX.refsVE bm && (cd.hasDict && (!cd.hasDel && (match sl.toList with
        | [_, _, _, _, some (.builtin n), _] => decide (n = "ValueError.__new__")
        | _ => false))))
      | _ => false)
    | _ => false) &&
  (decide (PySem.W.findIn K (.ref C) "__setattr__" = some (some (.builtin "object.__setattr__"))) && (decide (PySem.W.subIn K (.ref C) (.type "BaseException") = some true) &&
    (decide (PySem.W.typeIn K (.ref C) = some (.type "type")) && PySem.W.keepIn K (.ref C))))
theorem oexB_ok {K : PySem.W.Frag} {C : Addr} (h : oexB K C = true) : OexC K C := by
  obtain ⟨h1, h⟩ := He.ba h
  obtain ⟨h2, h⟩ := He.ba h
  obtain ⟨h3, h⟩ := He.ba h
  obtain ⟨h4, h5⟩ := He.ba h
  refine ⟨?_, of_decide_eq_true h2, of_decide_eq_true h3, of_decide_eq_true h4, h5⟩
  cases q : K.lookup C with
  | none =>
    rw [q] at h1; cases h1
  | some o =>
    rw [q] at h1
    obtain ⟨oc, od, dt, sl⟩ := o
    cases oc with
    | type z =>
      cases dt with
      | cls cd =>
        obtain ⟨hz, g1⟩ := He.ba h1
        clear h1
        have ez := of_decide_eq_true hz
        subst ez
        obtain ⟨nm, bs, mro, ns, qn, hd, sn, sub, ab, col, dl⟩ := cd
        cases mro with
        | nil => cases g1
        | cons m bm =>
          cases m with
          | ref B =>
            obtain ⟨hB, g2⟩ := He.ba g1
            clear g1
            have eB := of_decide_eq_true hB
            subst eB
            obtain ⟨hr, g3⟩ := He.ba g2
            obtain ⟨hh, g4⟩ := He.ba g3
            obtain ⟨hl, g5⟩ := He.ba g4
            clear g2 g3 g4
            have hh' : hd = true := hh
            subst hh'
            have hl' : dl = false := by simpa using hl
            subst hl'
            obtain ⟨l⟩ := sl
            rcases l with _ | ⟨k0, _ | ⟨k1, _ | ⟨k2, _ | ⟨k3, _ | ⟨k4, _ | ⟨k5, _ | ⟨k6, l⟩⟩⟩⟩⟩⟩⟩ <;> first | (cases g5; done) | skip
            · cases k4 with
              | none => cases g5
              | some v => cases v <;> cases g5
            · cases k4 with
              | none => cases g5
              | some v =>
                cases v with
                | builtin n =>
                  have hn : n = "ValueError.__new__" := of_decide_eq_true g5
                  subst hn
                  exact ⟨nm, qn, ns, bs, bm, sn, sub, ab, col, od, k0, k1, k2, k3, k5, rfl, hr⟩
                | _ => cases g5
            · cases k4 with
              | none => cases g5
              | some v => cases v <;> cases g5
          | _ => cases g1
      | _ => cases h1
    | _ => cases h1
/-- the class at C: what isinstance and the fields of a caught one want -/
def excB (K : PySem.W.Frag) (C : Addr) : Bool := xfB K C && (decide (PySem.W.findIn K (.ref C) "__class__" = some (some (.builtin "object.__class__"))) &&
  (decide (PySem.W.specialIn K (.builtin "object.__class__") "__get__" = some (some (.builtin "getset_descriptor.__get__"))) && (decide (PySem.W.takesIn K (.builtin "object.__class__") = some true) && decide (PySem.W.mroIn K C (.type "object") = some true))))
theorem excB_ok {K : PySem.W.Frag} {C : Addr} (h : excB K C = true) : XfC K C ∧ ExcC K C := by
  obtain ⟨h1, h⟩ := He.ba h
  obtain ⟨h2, h⟩ := He.ba h
  obtain ⟨h3, h⟩ := He.ba h
  obtain ⟨h4, h5⟩ := He.ba h
  have x := xfB_ok h1
  exact ⟨x, ⟨x.ga, x.gg, x.exC, x.hdC, of_decide_eq_true h2, of_decide_eq_true h3, of_decide_eq_true h4, of_decide_eq_true h5⟩⟩
/-- its __init__ read off the class -/
def iniB (K : PySem.W.Frag) (C f : Addr) : Bool := PySem.W.readsIn K C (.type "type") && (decide (PySem.W.specialIn K (.ref C) "__getattribute__" = some (some (.builtin "type.__getattribute__"))) &&
  (decide (PySem.W.findIn K (.type "type") "__init__" = some (some (.builtin "type.__init__"))) && (decide (PySem.W.specialIn K (.builtin "type.__init__") "__get__" = some (some (.builtin "wrapper_descriptor.__get__"))) &&
    (decide (PySem.W.takesIn K (.builtin "type.__init__") = some false) && (decide (PySem.W.findIn K (.ref C) "__init__" = some (some (.ref f))) && (decide (PySem.W.typeIn K (.ref f) = some (.type "function")) && PySem.W.keepIn K (.ref f)))))))
structure IniC (K : PySem.W.Frag) (C f : Addr) : Prop where
  rd : PySem.W.readsIn K C (.type "type") = true
  ga : PySem.W.specialIn K (.ref C) "__getattribute__" = some (some (.builtin "type.__getattribute__"))
  at_ : PySem.W.findIn K (.ref C) "__init__" = some (some (.ref f))
  ty : PySem.W.typeIn K (.ref f) = some (.type "function")
  kp : PySem.W.keepIn K (.ref f) = true
  fc : PySem.W.findCls K (.ref C) (.type "type") "__init__" = some (.val (.ref f))
theorem iniB_ok {K : PySem.W.Frag} {C f : Addr} (h : iniB K C f = true) : IniC K C f := by
  obtain ⟨h1, h⟩ := He.ba h
  obtain ⟨h2, h⟩ := He.ba h
  obtain ⟨h3, h⟩ := He.ba h
  obtain ⟨h4, h⟩ := He.ba h
  obtain ⟨h5, h⟩ := He.ba h
  obtain ⟨h6, h⟩ := He.ba h
  obtain ⟨h7, h8⟩ := He.ba h
  have h3 := of_decide_eq_true h3
  have h4 := of_decide_eq_true h4
  have h5 := of_decide_eq_true h5
  have h6 := of_decide_eq_true h6
  have h7 := of_decide_eq_true h7
  refine ⟨h1, of_decide_eq_true h2, h6, h7, h8, ?_⟩
  have hn : Builtin.heldUnderItsOwnName ("__init__" : Str) (.ref f) = false := by first | rfl | decide +kernel
  have hb : PySem.W.bareKinds.contains (.type "function") = true := by decide +kernel
  unfold PySem.W.findCls
  simp only [h3, h4, h5, h6, h7, hn, hb, Option.bind_some, Bool.false_eq_true, if_false, if_true]
/-- D.__init__(e, ..) -/
theorem pe_bini {X : Cx} {CX : CXT} {D f : Addr} {k : Nat} {fd : FuncData} {ps : List Str} {sp : Sp} {E : XK} {x : Str} {e : Expr} {es : List Expr} {t : TA} {p1 p2 pos : Pos} {pl : Sem Bool} (hg : Gl X x) (hm : X.mg x = some (.ref D)) (N : IniC X.K D f)
    (F : FnOk X.prog X.w X.K X.mg X.base CX k f fd ps sp) (hr : Room k X.A) (hb : Binds X.K fd ps []) (hx : Passes CX X E) (ha : PA X (e :: es) t) (hdb : (x == ("__debug__" : Str)) = false := by decide)
    (he : starEach (e :: es) X.env = (false, eval e X.env) :: starEach es X.env := by rfl) (hpl : (backTo pos (starEach es X.env)).any (·.1) = false := by rfl)
    (hc : eval (.Call (.Attribute (.Name x p1) "__init__" p2) (e :: es) [] pos) X.env = (do
      let ov ← eval (.Name x p1) X.env
      standAt p2.atName
      let (f, first) ← holding [ov] (getMethod ov "__init__" pl)
      callWith pos f first (backTo pos (starEach (e :: es) X.env)) (backToKw pos (keywordEach [] X.env))) := by rfl) :
    PE X (.Call (.Attribute (.Name x p1) "__init__" p2) (e :: es) [] pos) (tCall sp [] E t) := by
  refine ⟨fun pins s σ H Q I h => ?_⟩
  refine PySem.W.methodCall_KW (pl := pl) (ld_glob I hg hm ?_ hdb) hc
  refine PySem.W.method_cls I.kIn N.ga (PySem.W.cls_value I.kIn N.rd N.fc rfl ?_)
  refine PySem.W.callWith_K (first := []) (h₀ := X.base) I.ok.mod.kin N.kp (thn (ha.run pos pins _ σ H _ (I.tok _) h) fun us s1 hh => ?_) he hpl
  obtain ⟨vs, H1, I1, r, q⟩ := hh
  exact ⟨I1.kIn, run_fn F hr hb .nil hx I1 r q⟩

/-! ### what the __init__ of such classes promise -/
/-- of the class over ValueError: self, word -/
def spI1 (K : PySem.W.Frag) : Sp := fun vs H Q _ => ∃ (a C : Addr) (y : V), vs = [.ref a, y] ∧ OexC K C ∧ H a = some (exo a C none) ∧ PySem.W.findIn K (.ref C) "word" = some none ∧
  ∀ dx, H dx = none → dx ≠ a → Q .non (upd (upd H dx (exd dx [("word", y)])) a (exo a C (some dx)))
/-- of a class over that one: self alone -/
def spI2 (K : PySem.W.Frag) (z : Str) : Sp := fun vs H Q _ => ∃ (a C : Addr), vs = [.ref a] ∧ OexC K C ∧ H a = some (exo a C none) ∧ PySem.W.findIn K (.ref C) "word" = some none ∧
  ∀ dx, H dx = none → dx ≠ a → Q .non (upd (upd H dx (exd dx [("word", .str z)])) a (exo a C (some dx)))
/-- .. self and what its field g keeps -/
def spI3 (K : PySem.W.Frag) (z g : Str) : Sp := fun vs H Q _ => ∃ (a C : Addr) (y : V), vs = [.ref a, y] ∧ OexC K C ∧ H a = some (exo a C none) ∧ PySem.W.findIn K (.ref C) "word" = some none ∧ PySem.W.findIn K (.ref C) g = some none ∧
  ∀ dx, H dx = none → dx ≠ a → Q .non (upd (upd (upd H dx (exd dx [("word", .str z)])) a (exo a C (some dx))) dx (exd dx [(g, y), ("word", .str z)]))
section
variable {P : Program} {w : World} {K : PySem.W.Frag} {mg : Str → Option Value} {base : Heap} {a : Addr} {fd : FuncData} {x qual : Str} {params : Arguments} {scope : Scope} {body : List Stmt}
theorem upd_at {H : Hp} {a : Addr} {o : HO} : upd H a o a = some o := upd_same
theorem mk_I1 (F : FunD K x qual params body scope [] [] a fd) (S : FnScope ["self", "word"] ["self", "word"] scope)
    (hb : ∀ (cdv : Value) (A : Around) (outer : List Env) (s : Shared) (H : Hp) (E : XK), PSs (cxOf CX0 P w K mg base ["self", "word"] qual scope a cdv A outer s H E) body
      (tSeq (tDrop (tVeI K (tCons (tVar 0) (tCons (tVar 1) tNil)))) (tOst K "word" (tVar 0) (tVar 1)))) : FnOk P w K mg base CX0 1 a fd ["self", "word"] (spI1 K) := by
  refine F.ok S (fun vs H Q E h => ?_) (fun cdv A outer s H vs Q E hr h => ⟨_, hb cdv A outer s H E, ?_⟩)
  · obtain ⟨a, C, y, rfl, _⟩ := h
    rfl
  · obtain ⟨e, C, y, rfl, T, he, hno, q⟩ := h
    refine ⟨_, rfl, _, rfl, e, C, [y], rfl, by simp, T, he, ?_⟩
    exact ⟨_, rfl, _, rfl, e, C, rfl, T, hno, .inl ⟨he, q⟩⟩
theorem mk_I2 {k : Nat} {z : Str} (F : FunD K x qual params body scope [] [] a fd) (S : FnScope ["self"] ["self"] scope)
    (hb : ∀ (cdv : Value) (A : Around) (outer : List Env) (s : Shared) (H : Hp) (E : XK), Room k (A.deeper (envOfC qual scope s.heap.objs.size a cdv)) → PSs (cxOf CX0 P w K mg base ["self"] qual scope a cdv A outer s H E) body
      (tDrop (tCall (spI1 K) [] E0 (tCons (tVar 0) (tCons (tC (.str z)) tNil))))) : FnOk P w K mg base CX0 (k + 1) a fd ["self"] (spI2 K z) := by
  refine F.ok S (fun vs H Q E h => ?_) (fun cdv A outer s H vs Q E hr h => ⟨_, hb cdv A outer s H E hr, ?_⟩)
  · obtain ⟨a, C, rfl, _⟩ := h
    rfl
  · obtain ⟨e, C, rfl, T, he, hno, q⟩ := h
    exact ⟨_, rfl, e, C, .str z, rfl, T, he, hno, q⟩
theorem mk_I3 {k : Nat} {z g : Str} (F : FunD K x qual params body scope [] [] a fd) (S : FnScope ["self", g] ["self", g] scope)
    (hb : ∀ (cdv : Value) (A : Around) (outer : List Env) (s : Shared) (H : Hp) (E : XK), Room k (A.deeper (envOfC qual scope s.heap.objs.size a cdv)) → PSs (cxOf CX0 P w K mg base ["self", g] qual scope a cdv A outer s H E) body
      (tSeq (tDrop (tCall (spI1 K) [] E0 (tCons (tVar 0) (tCons (tC (.str z)) tNil)))) (tOst K g (tVar 0) (tVar 1)))) : FnOk P w K mg base CX0 (k + 1) a fd ["self", g] (spI3 K z g) := by
  refine F.ok S (fun vs H Q E h => ?_) (fun cdv A outer s H vs Q E hr h => ⟨_, hb cdv A outer s H E hr, ?_⟩)
  · obtain ⟨a, C, y, rfl, _⟩ := h
    rfl
  · obtain ⟨e, C, y, rfl, T, he, hno, hno2, q⟩ := h
    refine ⟨_, rfl, e, C, .str z, rfl, T, he, hno, fun dx hn hne => ?_⟩
    refine ⟨_, rfl, _, rfl, e, C, rfl, T, hno2, .inr ⟨dx, _, upd_same, ?_, ?_, q dx hn hne⟩⟩
    · rw [upd_ne hne]; exact upd_same
    · simp
end
end DV

namespace DV
open PySem PySem.Spec PyProof.Rows L2

/-! ### exceptions over data: the class's name, the fields by their names (the last one set first) -/
abbrev Flds := List (Str × D)
/-- what is wished of an exception behind a def; .. within one, at the slots -/
abbrev DX := Str → Flds → Prop
abbrev DXS := List Slot → Str → Flds → Prop
/-- a def that may raise -/
abbrev DSpX := List D → (D → Prop) → DX → Prop
abbrev DSX := DXS → DS
def XAt (K : PySem.W.Frag) (F H : Hp) (cls : Value) (d : Option Addr) (n : Str) (fs : Flds) : Prop :=
  cls = .ref (He.ga K n) ∧ ∃ (dd : Addr) (vs : List (Str × V)), d = some dd ∧ F dd = none ∧ H dd = some (.xd vs) ∧ vs.map (·.1) = fs.map (·.1) ∧ RpA K F (vs.map (·.2)) (fs.map (·.2))
theorem XAt.step {K : PySem.W.Frag} {F H F1 H1 : Hp} {cls : Value} {d : Option Addr} {n : Str} {fs : Flds} (x : XAt K F H cls d n fs) (e : Ext F H F1 H1) : XAt K F1 H1 cls d n fs := by
  obtain ⟨h1, dd, vs, h2, h3, h4, h5, h6⟩ := x
  obtain ⟨k1, k2⟩ := e.keep dd _ h3 h4
  exact ⟨h1, dd, vs, h2, k2, k1, h5, h6.mono e.mono⟩
/-- the promise of a def that may raise -/
def spDX (K : PySem.W.Frag) (f : DSpX) : Sp := fun vs H Q E => ∃ F ds Q0 W0, Sub F H ∧ RpA K F vs ds ∧ f ds Q0 W0 ∧ (∀ v H' F' d, Ext F H F' H' → Rp K F' v d → Q0 d → Q v H') ∧
  ∀ H' F' cls d n fs, Ext F H F' H' → XAt K F' H' cls d n fs → W0 n fs → E cls d H'
def XOk (K : PySem.W.Frag) (F0 H0 G : Hp) (w : DXS) (W : WX) : Prop := ∀ σ H F ρ cls d n fs, Sta K F0 H0 G F σ H ρ → XAt K F H cls d n fs → w ρ n fs → W cls d σ H
/-- a statement that may raise; W: what its surroundings take -/
def lfX (K : PySem.W.Frag) (t : DSX) (W : WX) : TS := fun Dn σ H => ∃ F0 H0 G ρ N w, StOk K F0 H0 G σ H ρ ∧ t w N ρ ∧ EndsOk K F0 H0 G N Dn ∧ XOk K F0 H0 G w W
abbrev PDX (X : Cx) (W : WX) (st : Stmt) (t : DSX) : Prop := PS X st (lfX X.K t W)
abbrev PDXs (X : Cx) (W : WX) (st : List Stmt) (t : DSX) : Prop := PSs X st (lfX X.K t W)
section
variable {X : Cx} {W : WX} {e a b c : Expr} {es : List Expr} {st : Stmt} {sts as bs : List Stmt} {t ta : DE} {tr : DA} {tA : DT} {u v : DSX} {s0 : DS} {pos p : Pos}
/-- one that raises nothing -/
def xL (t : DS) : DSX := fun _ => t
theorem pdx_of (h : PDS X st s0) : PDX X W st (xL s0) := h.impD fun N σ H ⟨F0, H0, G, ρ, M, w, so, ht, k, _⟩ => ⟨F0, H0, G, ρ, M, so, ht, k⟩
theorem pdxs_of (h : PDSs X sts s0) : PDXs X W sts (xL s0) := h.impD fun N σ H ⟨F0, H0, G, ρ, M, w, so, ht, k, _⟩ => ⟨F0, H0, G, ρ, M, so, ht, k⟩
def xSeq (t u : DSX) : DSX := fun w N ρ => t w { N with nx := u w N } ρ
theorem pdx_cons (h1 : PDX X W st u) (h2 : PDXs X W sts v) : PDXs X W (st :: sts) (xSeq u v) := (pss_cons h1 h2).impD fun N σ H ⟨F0, H0, G, ρ, M, w, so, ht, k, x⟩ =>
  ⟨F0, H0, G, ρ, _, w, so, ht, ⟨fun σ' H' ρ' so' q => ⟨F0, H0, G, ρ', M, w, so', q, k, x⟩, k.rt, k.ro, k.bk, k.ct⟩, x⟩
theorem pdx_one (h1 : PDX X W st u) : PDXs X W [st] u := pss_one h1
def xIf (c : DT) (t u : DSX) : DSX := fun w N ρ => c ρ fun b => if b = true then t w N ρ else u w N ρ
theorem pdx_if (hc : PDT X c tA) (ha : PDXs X W as u) (hb : PDXs X W bs v) : PDX X W (.If c as bs pos) (xIf tA u v) := (ps_if hc ha hb).impD fun N σ H ⟨F0, H0, G, ρ, M, w, ⟨F, so⟩, ht, k, x⟩ =>
  so.lfT ht fun b H' F' so' q => by
    cases b with
    | true => exact iteT ⟨F0, H0, G, ρ, M, w, ⟨F', so'⟩, q, k, x⟩
    | false => exact iteF ⟨F0, H0, G, ρ, M, w, ⟨F', so'⟩, q, k, x⟩
end

/-! ### raise C() and raise C(e) -/
/-- raise n(), n(y): its fields -/
def xRaise0 (n : Str) : DSX := fun w _ ρ => w ρ n [("word", .str n)]
def xRaise1 (n g : Str) (t : DE) : DSX := fun w _ ρ => t ρ fun d => w ρ n [(g, d), ("word", .str n)]
/-- what a class must say to be raised -/
structure ExD (K : PySem.W.Frag) (mg : Str → Option Value) (n : Str) (fI : Addr) : Prop where
  gl : mg n = some (.ref (He.ga K n))
  ox : OexC K (He.ga K n)
  ini : IniC K (He.ga K n) fI
  nw : PySem.W.findIn K (.ref (He.ga K n)) "word" = some none
theorem upd_back {H G : Hp} {a d : Addr} {u : HO} (ha : H a = none) (hne : d ≠ a) (h : ∀ b, b ≠ a → b ≠ d → G b = H b) : upd (del G a) d u = upd H d u := by
  funext b
  by_cases hb : b = d
  · rw [hb, upd_same, upd_same]
  · rw [upd_ne hb, upd_ne hb]
    by_cases hc : b = a
    · rw [hc, del_same, ha]
    · rw [del_ne hc, h b hc hb]
/-- the dict of a made exception -/
theorem Sta.made {K : PySem.W.Frag} {F0 H0 G F H : Hp} {σ : St} {ρ : List Slot} (s : Sta K F0 H0 G F σ H ρ) {dx : Addr} {vs : List (Str × V)} {n : Str} {fs : Flds} (hn : H dx = none) (e : vs.map (·.1) = fs.map (·.1)) (r : RpA K F (vs.map (·.2)) (fs.map (·.2))) :
    Sta K F0 H0 G F σ (upd H dx (.xd vs)) ρ ∧ XAt K F (upd H dx (.xd vs)) (.ref (He.ga K n)) (some dx) n fs :=
  ⟨s.step (Ext.newO s.ext.sub hn), rfl, dx, vs, rfl, s.ext.sub.none hn, upd_same, e, r⟩
section
variable {X : Cx} {W : WX} {e : Expr} {t : DE} {pos p : Pos} {k : Nat} {n g : Str} {fI : Addr} {fd : FuncData}
theorem pdx_raise1 {pp : Pos} (hc : X.calm = true) (tk : Takes X W) (T : ExD X.K X.mg n fI) (hno : PySem.W.findIn X.K (.ref (He.ga X.K n)) g = some none) (F1 : FnOk X.prog X.w X.K X.mg X.base CX0 k fI fd ["self", g] (spI3 X.K n g)) (hr : Room (k + 1) X.A)
    (hb : Binds X.K fd ["self", g] []) (he : PD X e t) (hg : Gl X n := by rfl) (hdb : (n == ("__debug__" : Str)) = false := by decide)
    (hs : starEach [e] X.env = (false, eval e X.env) :: starEach [] X.env := by rfl) (hpl : (backTo p (starEach [] X.env)).any (·.1) = false := by rfl) :
    PDX X W (.Raise (some (.Call (.Name n pos) [e] [] p)) none pp) (xRaise1 n g t) := by
  refine (ps_raise hc tk (pmk_oex (dvs := []) T.ox T.ini.at_ T.ini.ty F1 hr hb .nil (fun _ _ _ _ _ _ _ z => z.elim) hg T.gl (pa_cons he pa_nil hs) hdb hs hpl)).impD fun N σ H ⟨F0, H0, G, ρ, M, w, ⟨F, so⟩, ht, _, x⟩ => ?_
  refine so.lf ht fun v H1 F1 d so1 r q => ?_
  refine ⟨by simp, fun a ha => ⟨a, _, v, rfl, T.ox, upd_same, T.nw, hno, fun dx hn hne => ⟨rfl, dx, [(g, v), ("word", .str n)], ?_, upd_same, ?_, ?_⟩⟩⟩
  · rw [upd_ne (Ne.symm hne)]; exact upd_same
  · rw [upd_ne hne] at hn; exact hn
  · rw [upd_ne hne] at hn
    have na := ha
    rw [upd_back (H := H1) na hne fun b h1 h2 => by rw [upd_ne h2, upd_ne h1, upd_ne h2, upd_ne h1]]
    obtain ⟨s2, xa⟩ := so1.made (n := n) (vs := [(g, v), ("word", .str n)]) (fs := [(g, d), ("word", .str n)]) hn rfl (.cons r (.cons (.str n) .nil))
    exact x _ _ _ _ _ _ _ _ s2 xa q
end
section
variable {X : Cx} {W : WX} {pos p : Pos} {k : Nat} {n : Str} {fI : Addr} {fd : FuncData}
/-- n(), its own __init__ walked -/
theorem pmk_none {C : Addr} {sp : Sp} (T : OexC X.K C) (N : IniC X.K C fI) (F1 : FnOk X.prog X.w X.K X.mg X.base CX0 k fI fd ["self"] sp) (hr : Room (k + 1) X.A) (hb : Binds X.K fd ["self"] []) (hg : Gl X n) (hm : X.mg n = some (.ref C)) (hdb : (n == ("__debug__" : Str)) = false) :
    PMk X (.Call (.Name n p) [] [] pos) (tMkO C sp [] tNil) := fun pins s σ H Q I h => by
  refine wpAny_Call_Name_kw (ld_glob I hg hm (PySem.W.callWith_K0 I.kIn T.kC ?_) hdb)
  show wpAny _ _ (call (.ref C) []) _ _ _
  obtain ⟨_, _, _, _, bm, _, _, _, _, _, _, _, _, _, _, hC, hbm⟩ := T.cls
  obtain ⟨hp, gs, dr, tk, os⟩ := s
  let h1 := hp.push (PySem.W.kdv_tup [])
  let h2 := h1.push (PySem.HandSPX.excO C hp.objs.size)
  have sz : hp.objs.size ≤ hp.objs.size + 1 := Nat.le_succ _
  have kp : ∀ b o, hp.get? b = some o → h2.get? b = some o := fun b o e =>
    Heap.get?_push_of_some _ (Heap.get?_push_of_some _ e)
  have gt : h2.get? (hp.objs.size + 1) = some (PySem.HandSPX.excO C hp.objs.size) := by
    show ((hp.push (PySem.W.kdv_tup [])).push _).get? _ = _
    heap_get
  have na : H (hp.objs.size + 1) = none := I.hok.fresh sz
  have q0 := h.2 _ na
  have J : Inv X pins σ (upd H (hp.objs.size + 1) (exo (hp.objs.size + 1) C none)) ⟨h2, gs, dr, tk, os⟩ :=
    I.laid (t' := tk) kp sz (exo_ok gt)
  have bd := hb _ [Value.ref (hp.objs.size + 1)] J.kIn rfl
  refine wpAny_call (PySem.HandSPX.call_own F.excBase_ValueError (fun Y => PySem.HandSPX.refsVE_contains Y bm hbm) (I.kIn _ _ hC) (PySem.W.looks_findIn I.kIn N.at_)
    (fun self => PySem.W.bind_fn I.kIn self N.ty) (by simp) ?_)
  refine codeAny_mono (F1.run _ X.stack _ _ ⟨[Value.ref (hp.objs.size + 1)], []⟩ [Value.ref (hp.objs.size + 1)] [V.ref (hp.objs.size + 1)] _ (fun _ _ _ => False) (hr.make C [] []) (J.env0.make C [] []) bd (.cons rfl .nil) q0) fun r s' z => ?_
  cases r with
  | error er => exact z.elim
  | ok fl =>
    cases fl with
    | ret u =>
      obtain ⟨v, H2, z1, z2, z3, z4, z5, z6, d, fs, z7, z8, z9, z10⟩ := z
      subst z6
      obtain ⟨_, _, _, _, _⟩ := s'
      exact ⟨z5, mk_end (raises_own T.exC T.tyC) I sz kp z3 z4 z1 z2 z7 z8 z9 z10⟩
    | next => exact z.elim
    | brk => exact z.elim
    | cont => exact z.elim
theorem pdx_raise0 {pp : Pos} (hc : X.calm = true) (tk : Takes X W) (T : ExD X.K X.mg n fI) (F1 : FnOk X.prog X.w X.K X.mg X.base CX0 k fI fd ["self"] (spI2 X.K n)) (hr : Room (k + 1) X.A)
    (hb : Binds X.K fd ["self"] []) (hg : Gl X n := by rfl) (hdb : (n == ("__debug__" : Str)) = false := by decide) : PDX X W (.Raise (some (.Call (.Name n pos) [] [] p)) none pp) (xRaise0 n) := by
  refine (ps_raise hc tk (pmk_none T.ox T.ini F1 hr hb hg T.gl hdb)).impD fun N σ H ⟨F0, H0, G, ρ, M, w, ⟨F, so⟩, ht, _, x⟩ => ?_
  refine ⟨by simp, fun a ha => ⟨a, _, rfl, T.ox, upd_same, T.nw, fun dx hn hne => ⟨rfl, dx, [("word", .str n)], upd_same, ?_, ?_, ?_⟩⟩⟩
  · rw [upd_ne hne]; exact upd_same
  · rw [upd_ne hne] at hn; exact hn
  · rw [upd_ne hne] at hn
    rw [upd_back (H := H) ha hne fun b h1 h2 => by rw [upd_ne h1, upd_ne h2, upd_ne h1]]
    obtain ⟨s2, xa⟩ := so.made (n := n) (vs := [("word", .str n)]) (fs := [("word", .str n)]) hn rfl (.cons (.str n) .nil)
    exact x _ _ _ _ _ _ _ _ s2 xa ht
end
end DV

namespace DV
open PySem PySem.Spec PyProof.Rows L2

/-! ### several clauses with names -/
/-- one clause: its class, the slot of its name, its suite -/
structure Cl where
  c : Value
  i : Nat
  ts : Addr → Value → Option Addr → TS
def behindCl (D : Ends) (i : Nat) : Ends := { nx := fun σ H => D.nx (σ.set i none) H, rt := D.rt, bk := fun σ H => D.bk (σ.set i none) H, ct := fun σ H => D.ct (σ.set i none) H }
def wCls (K : PySem.W.Frag) (Wo : WX) (D : Ends) : List Cl → WX
  | [] => Wo
  | q :: l => fun cls d σ H => ∃ b, PySem.W.exmOne K cls q.c = some b ∧
    (b = true → ∀ a, H a = none → q.ts a cls d (behindCl D q.i) (σ.set q.i (some (.ref a))) H) ∧ (b = false → wCls K Wo D l cls d σ H)
inductive ClsOk (X : Cx) : List ExceptHandler → List Cl → Prop
  | nil : ClsOk X [] []
  | cons {x n : Str} {q : Cl} {st : Stmt} {sts : List Stmt} {np pp : Pos} {hs : List ExceptHandler} {l : List Cl} (hi : X.N[q.i]? = some n) (hln : X.env.kindOf n = some .local) (hc : Names X x q.c)
      (su : ∀ (a : Addr) (o : Obj) (cls : Value) (d : Option Addr) (pn : List (Addr × Obj)), Zc cls d o → (∃ vs, o.data = .fields vs) → PSs (X.suite a ((a, o) :: pn)) (st :: sts) (q.ts a cls d)) (r : ClsOk X hs l) :
      ClsOk X (.ExceptHandler (some (.Name x np)) (some n) (st :: sts) pp :: hs) (q :: l)
section
variable {X : Cx} {pins : List (Addr × Obj)} {σ : St} {H : Hp} {s : Shared}
theorem names_eval {x : Str} {np : Pos} {c : Value} {a : Addr} {pn pn' : List (Addr × Obj)} {Q : Value → Shared → Prop} {E : Value → Shared → Prop} (I : Inv (X.suite a pn) pn' σ H s) (hc : Names X x c) (q : Q c s) :
    wpAny (model X.prog X.w) (X.A.mark (some (.ref a))) (eval (.Name x np) X.env) Q E s := by
  obtain ⟨hg, hd, h | ⟨h1, h2, h3⟩⟩ := hc
  · exact ld_glob (X := X.suite a pn) I hg h q hd
  · exact ld_blt (X := X.suite a pn) I hg h1 h2 q h3 hd
/-- the suite has run; its name goes -/
theorem suite_end {a : Addr} {q : Addr × Obj} {D : Ends} {i : Nat} {n : Str} {pp : Pos} {f : Flow} {s6 : Shared} (ok : X.Ok) (hN : X.N.Nodup) (hi : X.N[i]? = some n) (hln : X.env.kindOf n = some .local) (h : SP (X.suite a (q :: (X.pn ++ pins))) [] (behindCl D i) f s6) :
    wpAny (model X.prog X.w) X.A (do bindName X.env n .none; unbindBehindTheSuite X.env n pp) (fun _ s7 => SP X pins D f s7) X.xe s6 := by
  cases f with
  | ret u =>
    obtain ⟨v, z1, z2, S, r, z⟩ := h
    exact gone_ok (S.unsuite ok) hN hi hln fun s7 J => ⟨v, _, _, J, r, z⟩
  | next =>
    obtain ⟨z1, z2, S, z⟩ := h
    exact gone_ok (S.unsuite ok) hN hi hln fun s7 J => ⟨_, _, J, z⟩
  | brk =>
    obtain ⟨z1, z2, S, z⟩ := h
    exact gone_ok (S.unsuite ok) hN hi hln fun s7 J => ⟨_, _, J, z⟩
  | cont =>
    obtain ⟨z1, z2, S, z⟩ := h
    exact gone_ok (S.unsuite ok) hN hi hln fun s7 J => ⟨_, _, J, z⟩
/-- an exception on the ground, the clauses asked one after the other -/
theorem clauses {B : Heap} {a : Addr} {cls : Value} {d : Option Addr} {D : Ends} {Wo : WX} {sI s' : Shared} {hs : List ExceptHandler} {l : List Cl} (ok : X.Ok) (hst : X.stack = X.env :: X.outer) (hf : X.env.frame = some X.env.locals) (hN : X.N.Nodup)
    (tk : Takes X Wo) (J : Inv X pins σ H sI) (nb : ∀ b o, sI.heap.get? b = some o → b ∉ frs X.stack → B.get? b = some o) (up : sI.heap.UpToSlots s'.heap) (na : H a = none) (os : s'.os = sI.os) (ag : AllBare s'.gens)
    (fl : HandSPX.FlyingZ B (X.env :: X.outer) a (Zc cls d) s'.heap) (ch : ClsOk X hs l) (w : wCls X.K Wo D l cls d σ H) : wpAny (model X.prog X.w) X.A (handleBy (.ref a) X.env hs) (SP X pins D) X.xe s' := by
  have J3 : Inv X pins σ H s' := J.landed nb fl.1 up os ag
  have stand : ∀ {h : Heap}, HandSPX.FlyingZ B (X.env :: X.outer) a (Zc cls d) h → ∃ o vs, h.get? a = some o ∧ Zc cls d o ∧ o.data = .fields vs ∧ a ≠ X.env.locals ∧ a ∉ X.fs := fun {h} z => by
    obtain ⟨o, vs, e1, e2, e3⟩ := z.there
    have away : a ∉ frs (X.env :: X.outer) := fun hm => by
      obtain ⟨_, o2, e4, e5⟩ := z.2.2.1.mem hm
      exact e5 vs (by rw [e1] at e4; cases e4; exact e3)
    refine ⟨o, vs, e1, e2, e3, fun z => away ?_, fun hm => away ?_⟩
    · exact List.mem_filterMap.mpr ⟨X.env, List.mem_cons_self, by rw [hf, z]⟩
    · obtain ⟨e, h1, h2⟩ := List.mem_filterMap.mp hm
      exact List.mem_filterMap.mpr ⟨e, List.mem_cons_of_mem _ h1, h2⟩
  induction ch with
  | nil =>
    refine wpAny_handleBy_nil ?_
    have fl2 := fl
    obtain ⟨_, _, _, oe, vs, T, _, _, he, _, hd, h1, _⟩ := fl2
    unfold PySem.passOn
    refine wpAny_bind (wpAny_field he hd h1 ?_)
    have nn : ¬ ((Value.ref T == Value.none) = true) := by simp
    rw [if_neg nn]
    have out : wpAny (model X.prog X.w) X.A (setFlight (.ref a) (some X.env.locals)) (fun _ s4 => wpAny (model X.prog X.w) X.A (throw (.ref a) : Sem Flow) (SP X pins D) X.xe s4) X.xe s' :=
      HandSPX.setFlight_upZ fl fun h4 g4 up4 => wpAny_throw (tk _ _ ⟨a, B, sI, pins, σ, H, cls, d, rfl, J, nb, up.trans up4, .inr (.inr (by rw [hst]; exact g4)), na, os, ag, w⟩)
    rw [← hf] at out
    first
      | exact wpAny_bind (wpAny_pure (wpAny_bind out))
      | exact wpAny_bind out
  | @cons x n q st sts np pp hs l hi hln hc su r ih =>
    obtain ⟨b, hb, yes, no⟩ := w
    obtain ⟨o3, vs3, he3, hz3, hd3, nL, nF⟩ := stand fl
    have S3 := J3.suite he3 hd3 na nL nF
    refine wpAny_handleBy_cons (codeAny_handlers_test ?_) (by intro z; cases z)
    have LT : PySem.W.Looks (model X.prog X.w) s'.heap (typeOf (.ref a)) cls := fun _ _ _ _ k z =>
      wpAny_typeOf_ref (k _ _ he3) (by rw [hz3.1]; exact z)
    refine names_eval S3 hc ((PySem.W.exm_one (M := model X.prog X.w) J3.kIn LT hb).here ?_)
    cases b with
    | false => exact ih (no rfl)
    | true =>
      refine codeAny_handlers_suite_as (HandSPX.lands_againZ fl fun h4 fl4 up4 => ?_)
      obtain ⟨o4, vs4, he4, hz4, hd4, _, _⟩ := stand fl4
      have J4 : Inv X pins σ H { s' with heap := h4 } := J.landed nb fl4.1 (up.trans up4) os ag
      have S4 := J4.suite he4 hd4 na nL nF
      refine store_ok (X := X.suite a ((a, o4) :: (X.pn ++ pins))) (v := .ref a) S4 hN hi (.inl hln) rfl (fun s5 S5 => ?_) (.inr hln)
      refine wpAny_mono ((su a o4 cls d (X.pn ++ pins) hz4 ⟨_, hd4⟩).run [] s5 _ H (behindCl D q.i) S5 (yes rfl a na)) (fun f s6 z => ?_) (fun _ _ z => z.elim)
      have z2 := suite_end (pp := pp) ok hN hi hln z
      cases f <;> exact z2
/-- try: body; except x as n: ..; except y as m: .. -/
theorem ps_try_cls {body : List Stmt} {hs : List ExceptHandler} {h0 : ExceptHandler} {l : List Cl} {tb : WX → TS} {Wo : WX} {pos : Pos} (hst : X.stack = X.env :: X.outer) (hf : X.env.frame = some X.env.locals) (hN : X.N.Nodup) (tk : Takes X Wo)
    (hb : ∀ (W : WX) (pn : List (Addr × Obj)) (xe : Value → Shared → Prop), Takes (X.tr pn xe) W → PassesOwn (model X.prog X.w) X.A X.env xe → PSs (X.tr pn xe) body (tb W)) (ch : ClsOk X (h0 :: hs) l) :
    PS X (.Try body (h0 :: hs) [] [] pos) (fun D σ H => tb (wCls X.K Wo D l) D σ H) := by
  refine ⟨fun pins s σ H D I h => ?_⟩
  have ok := I.ok
  have hfr : X.A.frames = some (X.env :: X.outer) := by rw [ok.frames, hst]
  let xe : Value → Shared → Prop := fun e s1 => wpAny (model X.prog X.w) X.A (noteFrame e X.env) (fun _ s2 => wpAny (model X.prog X.w) X.A (setFlight e none)
    (fun _ s3 => wpAny (model X.prog X.w) X.A (handleBy e X.env (h0 :: hs)) (SP X pins D) X.xe s3) X.xe s2) X.xe s1
  have T : Takes (X.tr (X.pn ++ pins) xe) (wCls X.K Wo D l) := fun u s' z => by
    obtain ⟨a, B, sI, pins', σ', H', cls, d, rfl, J', nb, up, sky, na, os, ag, w⟩ := z
    have sky2 : Sky B (X.env :: X.outer) a (Zc cls d) X.env.locals s'.heap := by
      rw [← hst]
      exact sky
    exact Sky.land Zc.steady hfr hf sky2 fun h3 fl3 up3 => clauses (s' := { s' with heap := h3 }) ok hst hf hN tk (J'.ofTry ok) nb (up.trans up3) na os ag fl3 ch w
  refine wpAny_Try_except (wpAny_mono ((hb _ (X.pn ++ pins) xe T PassesOwn.looking).run [] s σ H D (I.toTry _) h) (fun f s1 z => ?_) fun _ _ z => z)
  cases f with
  | ret u =>
    obtain ⟨v, z1, z2, J, z3⟩ := z
    exact ⟨v, z1, z2, J.ofTry ok, z3⟩
  | next =>
    obtain ⟨z1, z2, J, z3⟩ := z
    exact wpAny_execs_nil ⟨z1, z2, J.ofTry ok, z3⟩
  | brk =>
    obtain ⟨z1, z2, J, z3⟩ := z
    exact ⟨z1, z2, J.ofTry ok, z3⟩
  | cont =>
    obtain ⟨z1, z2, J, z3⟩ := z
    exact ⟨z1, z2, J.ofTry ok, z3⟩
end
end DV

namespace DV
open PySem PySem.Spec PyProof.Rows L2

/-! ### defs that may raise -/
def fnX (n m : Nat) (t : DSX) : DSpX := fun ds Q w => ds.length = m ∧ t (fun _ => w) ⟨fun _ => Q .non, Q, fun _ => False, fun _ => False, roL Q⟩ (ds.map Slot.v ++ List.replicate (n - m) Slot.un)
section
variable {P : Program} {w : World} {K : PySem.W.Frag} {mg : Str → Option Value} {base : Heap}
theorem fn_okX {x qual : Str} {params : Arguments} {body : List Stmt} {scope : Scope} {dvs : List V} {kws : List (Str × V)} {f : Addr} {fd : FuncData} {N ps : List Str} {k : Nat} {t : DSX}
    (F : FunD K x qual params body scope dvs kws f fd) (S : FnScope N ps scope)
    (hb : ∀ (cdv : Value) (A : Around) (outer : List Env) (s : Shared) (H : Hp) (E : XK), Room k (A.deeper (envOfC qual scope s.heap.objs.size f cdv)) → Takes (cxOf (L2.CX P w) P w K mg base N qual scope f cdv A outer s H E) (fun cls d _ H => E cls d H) →
      PDXs (cxOf (L2.CX P w) P w K mg base N qual scope f cdv A outer s H E) (fun cls d _ H => E cls d H) body t) :
    FnOk P w K mg base (L2.CX P w) (k + 1) f fd ps (spDX K (fnX N.length ps.length t)) := by
  refine F.ok S (fun vs H Q E h => ?_) (fun cdv A outer s H vs Q E hr h => ⟨_, hb cdv A outer s H E hr (takes_of rfl rfl rfl rfl), ?_⟩)
  · obtain ⟨F, ds, Q0, W0, _, r, h, _⟩ := h
    rw [r.length]; exact h.1
  · obtain ⟨F, ds, Q0, W0, sb, r, h, q, qx⟩ := h
    have en : EnvOk K F H (L2.start N vs) (ds.map Slot.v ++ List.replicate (N.length - ds.length) Slot.un) := env_start r
    rw [h.1] at en
    refine ⟨F, H, F, _, _, fun _ => W0, ⟨F, ⟨sb, Same.refl F, .refl sb, en, fun i p d h1 h2 => ?_⟩⟩, h.2, ⟨fun σ' H' ρ' ⟨F', s'⟩ z => q .non H' F' .non s'.ext .non z, fun v H' F' d x r z => q v H' F' d x r z, fun p d H' F' x h0 hF o z => (by
      cases d <;> first | (simp [roL, isLst] at z; done) | skip
      obtain ⟨xs, hp, r⟩ := o
      exact q (.ref p) H' (upd F' p (.lst xs)) _ (x.adopt h0 hF hp) (.lst upd_same (r.mono fun b o e => by rw [upd_ne (ne_of_none e hF)]; exact e)) z.2), fun _ _ _ _ z => z.elim, fun _ _ _ _ z => z.elim⟩, fun σ' H' F' ρ' cls d n fs s' x z => qx H' F' cls d n fs s'.ext x z⟩
    have hm := List.mem_of_getElem? h2
    rcases List.mem_append.mp hm with z | z
    · obtain ⟨d', _, z⟩ := List.mem_map.mp z
      cases z
    · cases (List.mem_replicate.mp z).2
end
/-- such a def as its callers see it -/
def GdX (P : Program) (w : World) (K : PySem.W.Frag) (mg : Str → Option Value) (base : Heap) (nm : Str) (k : Nat) (dd : List D) (f : DSpX) : Prop :=
  ∃ (a : Addr) (fd : FuncData) (ps : List Str) (ds : List Value) (dvs : List V), mg nm = some (.ref a) ∧ PySem.W.keepIn K (.ref a) = true ∧ FnOk P w K mg base (L2.CX P w) k a fd ps (spDX K f) ∧ Binds K fd ps ds ∧ Vals dvs ds ∧ ∀ F, RpA K F dvs dd
section
variable {X : Cx} {W : WX} {e : Expr} {es : List Expr} {tr : DA} {pos p p2 : Pos} {nm : Str} {k : Nat} {dd : List D} {f : DSpX}
/-- f(..) as a whole statement | what is stored | what is handed back -/
def xDrop (f : DSpX) (dd : List D) (tr : DA) : DSX := fun w N ρ => tr ρ fun ds => f (ds ++ dd) (fun _ => N.nx ρ) (w ρ)
def xSet (i : Nat) (f : DSpX) (dd : List D) (tr : DA) : DSX := fun w N ρ => tr ρ fun ds => f (ds ++ dd) (fun d => N.nx (ρ.set i (.v d))) (w ρ)
def xRet (f : DSpX) (dd : List D) (tr : DA) : DSX := fun w N ρ => tr ρ fun ds => f (ds ++ dd) N.rt (w ρ)
theorem Sta.callX {K : PySem.W.Frag} {F0 H0 G F H : Hp} {σ : St} {ρ : List Slot} (s : Sta K F0 H0 G F σ H ρ) {dvs : List V} {Q0 : D → Prop} {W0 : DX} {Q : VK} {W : WX} (hdd : ∀ F, RpA K F dvs dd) (ht : tr ρ fun ds => f (ds ++ dd) Q0 W0)
    (kQ : ∀ v H' F' d, Sta K F0 H0 G F' σ H' ρ → Rp K F' v d → Q0 d → Q v H') (kW : ∀ H' F' cls d n fs, Sta K F0 H0 G F' σ H' ρ → XAt K F' H' cls d n fs → W0 n fs → W cls d σ H') :
    tCallSD (spDX K f) dvs (WE W) (DV.lfA K tr) σ H Q :=
  s.lfA ht fun vs H1 F1 ds s1 r q => ⟨F1, _, Q0, W0, s1.ext.sub, r.append (hdd F1), q, fun v H' F' d x r' q' => kQ v H' F' d (s1.step x) r' q', fun H' F' cls d n fs x xa q' => kW H' F' cls d n fs (s1.step x) xa q'⟩
theorem pe_gdx {a : Addr} {fd : FuncData} {ps : List Str} {ds : List Value} {dvs : List V} (F : FnOk X.prog X.w X.K X.mg X.base (L2.CX X.prog X.w) k a fd ps (spDX X.K f)) (hm : X.mg nm = some (.ref a)) (hk : PySem.W.keepIn X.K (.ref a) = true) (hb : Binds X.K fd ps ds) (hd : Vals dvs ds)
    (tk : Takes X W) (hr : Room k X.A) (ha : PDA X (e :: es) tr) (hg : Gl X nm) (hdb : (nm == ("__debug__" : Str)) = false) (he : starEach (e :: es) X.env = (false, eval e X.env) :: starEach es X.env) (hpl : (backTo pos (starEach es X.env)).any (·.1) = false) :
    PE X (.Call (.Name nm p) (e :: es) [] pos) (tCallSD (spDX X.K f) dvs (WE W) (lfA X.K tr)) := pe_callSD F hr hg hm hk hb hd (fun σ => passAt tk σ) ha hdb he hpl
theorem pdx_drop (tk : Takes X W) (G : GdX X.prog X.w X.K X.mg X.base nm k dd f) (hr : Room k X.A) (ha : PDA X (e :: es) tr) (hg : Gl X nm := by rfl) (hdb : (nm == ("__debug__" : Str)) = false := by decide)
    (he : starEach (e :: es) X.env = (false, eval e X.env) :: starEach es X.env := by rfl) (hpl : (backTo pos (starEach es X.env)).any (·.1) = false := by rfl) (hs : swapsWith (.Call (.Name nm p) (e :: es) [] pos) none p2.line X.env = pure false := by rfl) :
    PDX X W (.Expr (.Call (.Name nm p) (e :: es) [] pos) p2) (xDrop f dd tr) := by
  obtain ⟨a, fd, ps, ds, dvs, hm, hk, F, hb, hd, hdd⟩ := G
  refine (ps_expr (pe_gdx F hm hk hb hd tk hr ha hg hdb he hpl) hs).impD fun N σ H ⟨F0, H0, G, ρ, M, w, ⟨F, so⟩, ht, k, x⟩ => ?_
  exact so.callX hdd ht (fun v H' F' d s1 _ q => k.nx σ H' ρ ⟨F', s1⟩ q) fun H' F' cls d n fs s1 xa q => x σ H' F' ρ cls d n fs s1 xa q
theorem pdx_set {i : Nat} {x : Str} {pos' : Pos} (hN : X.N.Nodup) (hi : X.N[i]? = some x) (hx : Loc X.env.scope x) (tk : Takes X W) (G : GdX X.prog X.w X.K X.mg X.base nm k dd f) (hr : Room k X.A) (ha : PDA X (e :: es) tr) (hg : Gl X nm := by rfl) (hdb : (nm == ("__debug__" : Str)) = false := by decide)
    (he : starEach (e :: es) X.env = (false, eval e X.env) :: starEach es X.env := by rfl) (hpl : (backTo pos (starEach es X.env)).any (·.1) = false := by rfl) (hs : swapsWith (.Call (.Name nm p) (e :: es) [] pos) (some (.Name x pos')) p2.line X.env = pure false := by rfl)
    (hf : X.fn x = true ∨ X.env.scope.names.lookup x = some .local := by first | exact .inl rfl | exact .inr rfl | assumption) :
    PDX X W (.Assign [.Name x pos'] (.Call (.Name nm p) (e :: es) [] pos) p2) (xSet i f dd tr) := by
  obtain ⟨a, fd, ps, ds, dvs, hm, hk, F, hb, hd, hdd⟩ := G
  refine (ps_set hN hi hx (pe_gdx F hm hk hb hd tk hr ha hg hdb he hpl) hs hf).impD fun N σ H ⟨F0, H0, G, ρ, M, w, ⟨F, so⟩, ht, k, x⟩ => ?_
  exact so.callX hdd ht (fun v H' F' d s1 r q => k.nx _ H' _ ⟨F', s1.set i r⟩ q) fun H' F' cls d n fs s1 xa q => x σ H' F' ρ cls d n fs s1 xa q
theorem pdx_ret (tk : Takes X W) (G : GdX X.prog X.w X.K X.mg X.base nm k dd f) (hr : Room k X.A) (ha : PDA X (e :: es) tr) (hg : Gl X nm := by rfl) (hdb : (nm == ("__debug__" : Str)) = false := by decide)
    (he : starEach (e :: es) X.env = (false, eval e X.env) :: starEach es X.env := by rfl) (hpl : (backTo pos (starEach es X.env)).any (·.1) = false := by rfl) : PDX X W (.Return (some (.Call (.Name nm p) (e :: es) [] pos)) p2) (xRet f dd tr) := by
  obtain ⟨a, fd, ps, ds, dvs, hm, hk, F, hb, hd, hdd⟩ := G
  refine (ps_ret (pe_gdx F hm hk hb hd tk hr ha hg hdb he hpl)).impD fun N σ H ⟨F0, H0, G, ρ, M, w, ⟨F, so⟩, ht, k, x⟩ => ?_
  exact so.callX hdd ht (fun v H' F' d s1 r q => k.rt v H' F' d s1.ext r q) fun H' F' cls d n fs s1 xa q => x σ H' F' ρ cls d n fs s1 xa q
/-- .. where it is known not to raise -/
theorem pd_gdx (hE : Takes X fun _ _ _ _ => False) (G : GdX X.prog X.w X.K X.mg X.base nm k dd f) (hr : Room k X.A) (ha : PDA X (e :: es) tr) (hg : Gl X nm := by rfl) (hdb : (nm == ("__debug__" : Str)) = false := by decide)
    (he : starEach (e :: es) X.env = (false, eval e X.env) :: starEach es X.env := by rfl) (hpl : (backTo pos (starEach es X.env)).any (·.1) = false := by rfl) : PD X (.Call (.Name nm p) (e :: es) [] pos) (dCall (fun ds Q => f ds Q fun _ _ => False) dd tr) := by
  obtain ⟨a, fd, ps, ds, dvs, hm, hk, F, hb, hd, hdd⟩ := G
  refine (pe_gdx F hm hk hb hd hE hr ha hg hdb he hpl).impD fun σ H Q ⟨ρ, F, Q0, s, en, ht, k⟩ => ⟨ρ, F, _, s, en, ht, fun vs H1 F1 ds x1 r q => ?_⟩
  exact ⟨F1, _, Q0, fun _ _ => False, x1.sub, r.append (hdd F1), q, fun v H' F' d x2 r2 q2 => k v H' F' d (x1.trans x2) r2 q2, fun _ _ _ _ _ _ _ _ z => z.elim⟩
end

/-! ### what stands in an except suite: the exception's fields, its class -/
abbrev DEF := Flds → DE
abbrev DAF := Flds → DA
/-- a the exception, i its name's slot, n its class -/
structure InS (K : PySem.W.Frag) (i : Nat) (a : Addr) (d : Option Addr) (n : Str) (fs : Flds) (σ : St) (F H : Hp) : Prop where
  at_ : σ[i]? = some (some (.ref a))
  x : XAt K F H (.ref (He.ga K n)) d n fs
theorem InS.step {K : PySem.W.Frag} {i : Nat} {a : Addr} {d : Option Addr} {n : Str} {fs : Flds} {σ : St} {F H F1 H1 : Hp} (s : InS K i a d n fs σ F H) (e : Ext F H F1 H1) : InS K i a d n fs σ F1 H1 := ⟨s.at_, s.x.step e⟩
def lfEF (K : PySem.W.Frag) (i : Nat) (a : Addr) (d : Option Addr) (n : Str) (t : DEF) : TE := fun σ H Q => ∃ ρ F Q0 fs, Sub F H ∧ EnvOk K F H σ ρ ∧ InS K i a d n fs σ F H ∧ t fs ρ Q0 ∧ ∀ v H' F' d, Ext F H F' H' → Rp K F' v d → Q0 d → Q v H'
def lfAF (K : PySem.W.Frag) (i : Nat) (a : Addr) (d : Option Addr) (n : Str) (t : DAF) : TA := fun σ H Q => ∃ ρ F Q0 fs, Sub F H ∧ EnvOk K F H σ ρ ∧ InS K i a d n fs σ F H ∧ t fs ρ Q0 ∧ ∀ v H' F' d, Ext F H F' H' → RpA K F' v d → Q0 d → Q v H'
section
variable {X : Cx} {i : Nat} {a : Addr} {d : Option Addr} {n g : Str} {e o : Expr} {es : List Expr} {t : DEF} {tr : DAF} {pos p p2 : Pos} {oe : Obj} {pn : List (Addr × Obj)}
/-- e.g -/
def fFld (g : Str) : DEF := fun fs _ Q => match fs.lookup g with
  | some d => Q d
  | none => False
/-- isinstance(e, T): the text answers b -/
def fIs (T : Str) (b : Bool) : DEF := fun _ _ Q => Q (.bl b)
/-- something else -/
def fE (t : DE) : DEF := fun _ => t
def fNil : DAF := fun _ _ Q => Q []
def fCons (t : DEF) (u : DAF) : DAF := fun fs ρ Q => t fs ρ fun d => u fs ρ fun ds => Q (d :: ds)
def fTup (u : DAF) : DEF := fun fs ρ Q => u fs ρ fun ds => ds ≠ [] ∧ ds.length ≤ sizeLine ∧ Q (.tup ds)
theorem look_cons {α : Type} (f g : Str) (y : α) (l : List (Str × α)) : ((f, y) :: l).lookup g = if g = f then some y else l.lookup g := by
  by_cases h : g = f
  · subst h
    simp [List.lookup]
  · have e : (g == f) = false := by simpa using h
    rw [if_neg h]
    simp [List.lookup, e]
theorem look_rel {K : PySem.W.Frag} {F : Hp} {g : Str} {x : D} : ∀ {vs : List (Str × V)} {fs : Flds}, vs.map (·.1) = fs.map (·.1) → RpA K F (vs.map (·.2)) (fs.map (·.2)) → fs.lookup g = some x → ∃ v, vs.lookup g = some v ∧ Rp K F v x
  | [], [], _, _, h => by cases h
  | [], _ :: _, h, _, _ => by cases h
  | _ :: _, [], h, _, _ => by cases h
  | (a, v) :: vs, (b, y) :: fs, h, r, q => by
    simp only [List.map_cons, List.cons.injEq] at h
    obtain ⟨h1, h2⟩ := h
    subst h1
    cases r with
    | cons r1 r2 =>
      rw [look_cons] at q ⊢
      by_cases e : g = a
      · rw [if_pos e] at q ⊢
        cases q
        exact ⟨v, rfl, r1⟩
      · rw [if_neg e] at q ⊢
        exact look_rel h2 r2 q
theorem pef_fld (T : XfC X.K (He.ga X.K n)) (hno : PySem.W.findIn X.K (.ref (He.ga X.K n)) g = some none) (hz : Zc (.ref (He.ga X.K n)) d oe) (hf : ∃ vs, oe.data = .fields vs) (ho : PE (X.suite a ((a, oe) :: pn)) o (tVar i))
    (hb : attributeBase o g X.env (eval o X.env) = eval o X.env := by rfl) : PE (X.suite a ((a, oe) :: pn)) (.Attribute o g pos) (lfEF X.K i a d n (fFld g)) := by
  refine (pe_xf T hno hz hf ho hb).impD fun σ H Q ⟨ρ, F, Q0, fs, s, en, z, ht, k⟩ => ?_
  obtain ⟨_, dd, vs, e1, e2, e3, e4, e5⟩ := z.x
  unfold fFld at ht
  cases hl : fs.lookup g with
  | none => rw [hl] at ht; exact ht.elim
  | some x =>
    rw [hl] at ht
    obtain ⟨v, l, r⟩ := look_rel e4 e5 hl
    exact ⟨_, z.at_, rfl, rfl, dd, vs, v, e1, e3, l, k v H F x (.refl s) r ht⟩
def rIsF (K : PySem.W.Frag) (n : Str) (a : Addr) (d : Option Addr) : List V → Hp → VK → Prop := fun xs H Q => ∃ (c : V) (cv : Value) (b : Bool) (dd : Addr) (vs : List (Str × V)), xs = [.ref a, c] ∧ (∀ u, RelV c u → u = cv) ∧ PySem.W.kitOne K (.ref (He.ga K n)) cv = some b ∧ d = some dd ∧ H dd = some (.xd vs) ∧ Q (.bl b) H
theorem call_isF (C : ExcC X.K (He.ga X.K n)) (hz : Zc (.ref (He.ga X.K n)) d oe) (hf : ∃ vs, oe.data = .fields vs) : CallR (X.suite a ((a, oe) :: pn)) (.builtin "isinstance") (rIsF X.K n a d) := by
  intro pins s σ H xs us Q I r h
  obtain ⟨c, cv, b, dd, vs, rfl, hcv, e, ed, ex, q⟩ := h
  rcases r with _ | ⟨rx, _ | ⟨rt, _ | ⟨_, _⟩⟩⟩
  cases rx
  have ec := hcv _ rt
  subst ec ed
  obtain ⟨hget, _⟩ := I.pin (a, oe) (List.mem_append.mpr (.inl List.mem_cons_self))
  obtain ⟨ws, hv⟩ := hf
  have hx : ObjOk X.prog X.w H s.heap dd (.xd vs) := I.hok dd _ ex
  obtain ⟨mA, hns, _⟩ := hx
  obtain ⟨od, ho, _⟩ := lookIn_ns hns
  have J : PySem.W.InstAt s.heap a oe (He.ga X.K n) (some od) := ⟨hget, hz.1, by unfold PySem.W.notCls; rw [hv] <;> rfl, by rw [hz.2]; exact ho⟩
  obtain ⟨cd, hcl, _⟩ := PySem.W.any_some C.hd
  have hcs : (PySem.W.clsIn X.K (He.ga X.K n)).isSome = true := by rw [hcl] <;> rfl
  exact PySem.W.kia_one (PySem.W.kitx_exc (x := a) (ox := oe) (od := some od) hcs C.hg C.hk C.hs C.ha C.hn C.ht C.hm) I.kIn J e (fun z => nomatch z) fun tk => ⟨.bl b, H, I.kept (t' := tk) fun _ _ z => z, rfl, q⟩
theorem pef_is {T : Str} {b : Bool} {c : V} {cv : Value} (C : ExcC X.K (He.ga X.K n)) (hz : Zc (.ref (He.ga X.K n)) d oe) (hf : ∃ vs, oe.data = .fields vs) (hk : PySem.W.kitOne X.K (.ref (He.ga X.K n)) cv = some b) (hcv : ∀ u, RelV c u → u = cv)
    (hm : X.mg "isinstance" = none) (ho : PE (X.suite a ((a, oe) :: pn)) o (tVar i)) (hT : PE (X.suite a ((a, oe) :: pn)) (.Name T p2) (tC c)) (hg : Gl X "isinstance" := by rfl)
    (h1 : starEach [o, .Name T p2] X.env = (false, eval o X.env) :: starEach [.Name T p2] X.env := by rfl) :
    PE (X.suite a ((a, oe) :: pn)) (.Call (.Name "isinstance" p) [o, .Name T p2] [] pos) (lfEF X.K i a d n (fIs T b)) := by
  refine PE.impD (t := tCB (rIsF X.K n a d) (tCons (tVar i) (tCons (tC c) tNil))) ?_ fun σ H Q ⟨ρ, F, Q0, fs, s, en, z, ht, k⟩ => ?_
  · exact pe_callB (call_isF C hz hf) hg hm (by decide +kernel) (pa_cons ho (pa_cons hT pa_nil) h1) (by decide) (by decide) h1
  · obtain ⟨_, dd, vs, e1, e2, e3, e4, e5⟩ := z.x
    exact ⟨_, z.at_, c, cv, b, dd, vs, rfl, hcv, hk, e1, e3, k _ H F _ (.refl s) (.bl b) ht⟩
theorem pef_e {u : DE} (h : PD (X.suite a ((a, oe) :: pn)) e u) : PE (X.suite a ((a, oe) :: pn)) e (lfEF X.K i a d n (fE u)) := h.impD fun σ H Q ⟨ρ, F, Q0, fs, s, en, z, ht, k⟩ => ⟨ρ, F, Q0, s, en, ht, k⟩
theorem paf_nil : PA (X.suite a ((a, oe) :: pn)) [] (lfAF X.K i a d n fNil) := pa_nil.impD fun σ H Q ⟨ρ, F, Q0, fs, s, en, z, ht, k⟩ => k [] H F [] (.refl s) .nil ht
theorem paf_cons (h1 : PE (X.suite a ((a, oe) :: pn)) e (lfEF X.K i a d n t)) (h2 : PA (X.suite a ((a, oe) :: pn)) es (lfAF X.K i a d n tr)) (hs : starEach (e :: es) X.env = (false, eval e X.env) :: starEach es X.env := by rfl) :
    PA (X.suite a ((a, oe) :: pn)) (e :: es) (lfAF X.K i a d n (fCons t tr)) := (pa_cons h1 h2 hs).impD fun σ H Q ⟨ρ, F, Q0, fs, s, en, z, ht, k⟩ =>
  ⟨ρ, F, _, fs, s, en, z, ht, fun v H1 F1 x x1 r q => ⟨ρ, F1, _, fs, x1.sub, en.mono x1, z.step x1, q, fun vs H2 F2 xs x2 r2 q2 => k (v :: vs) H2 F2 _ (x1.trans x2) (.cons (r.mono x2.mono) r2) q2⟩⟩
theorem pef_tup {x1} (h : PA (X.suite a ((a, oe) :: pn)) (e :: es) (lfAF X.K i a d n tr)) : PE (X.suite a ((a, oe) :: pn)) (.Tuple (e :: es) x1 pos) (lfEF X.K i a d n (fTup tr)) := (pe_tup h).impD fun σ H Q ⟨ρ, F, Q0, fs, s, en, z, ht, k⟩ =>
  ⟨ρ, F, _, fs, s, en, z, ht, fun vs H1 F1 ds x1 r q => ⟨by rw [r.length]; exact q.2.1, fun q' hp => k _ _ _ _ (x1.trans (Ext.newT x1.sub hp)) (.tup (.inl (.inl upd_same)) (r.mono (Ext.newT x1.sub hp).mono)) q.2.2⟩⟩
end
/-! ### the suite, the whole try -/
abbrev DSF := Flds → DS
def lfSF (K : PySem.W.Frag) (i : Nat) (a : Addr) (d : Option Addr) (n : Str) (t : DSF) : TS := fun Dn σ H => ∃ F0 H0 G F ρ N fs, Sta K F0 H0 G F σ H ρ ∧ InS K i a d n fs σ F H ∧ t fs N ρ ∧ EndsOk K F0 H0 G N Dn
section
variable {X : Cx} {i : Nat} {a : Addr} {d : Option Addr} {n g : Str} {e o : Expr} {es : List Expr} {t : DEF} {tr : DAF} {pos p p2 : Pos} {oe : Obj} {pn : List (Addr × Obj)}
def fSet (j : Nat) (t : DEF) : DSF := fun fs N ρ => t fs ρ fun d => N.nx (ρ.set j (.v d))
def fRet (t : DEF) : DSF := fun fs N ρ => t fs ρ N.rt
theorem psf_set {j : Nat} {x : Str} {pos' : Pos} (hN : X.N.Nodup) (hi : X.N[j]? = some x) (hx : Loc X.env.scope x) (he : PE (X.suite a ((a, oe) :: pn)) e (lfEF X.K i a d n t)) (hs : swapsWith e (some (.Name x pos')) pos.line X.env = pure false := by rfl)
    (hf : X.fn x = true ∨ X.env.scope.names.lookup x = some .local := by first | exact .inl rfl | exact .inr rfl | assumption) : PSs (X.suite a ((a, oe) :: pn)) [.Assign [.Name x pos'] e pos] (lfSF X.K i a d n (fSet j t)) :=
  pss_one ((ps_set (X := X.suite a ((a, oe) :: pn)) hN hi hx he hs hf).impD fun N σ H ⟨F0, H0, G, F, ρ, M, fs, so, z, ht, k⟩ =>
    ⟨ρ, F, _, fs, so.ext.sub, so.env, z, ht, fun v H1 F1 x x1 r q => k.nx _ H1 _ ⟨F1, (so.step x1).set j r⟩ q⟩)
theorem psf_ret (he : PE (X.suite a ((a, oe) :: pn)) e (lfEF X.K i a d n t)) : PSs (X.suite a ((a, oe) :: pn)) [.Return (some e) pos] (lfSF X.K i a d n (fRet t)) :=
  pss_one ((ps_ret he).impD fun N σ H ⟨F0, H0, G, F, ρ, M, fs, so, z, ht, k⟩ =>
    ⟨ρ, F, _, fs, so.ext.sub, so.env, z, ht, fun v H1 F1 x x1 r q => k.rt v H1 F1 x (so.step x1).ext r q⟩)
end
/-- a slot of which nothing is known -/
theorem Sta.setUn {K : PySem.W.Frag} {F0 H0 G F H : Hp} {σ : St} {ρ : List Slot} (s : Sta K F0 H0 G F σ H ρ) (i : Nat) (o : Option V) : Sta K F0 H0 G F (σ.set i o) H (ρ.set i .un) := by
  have key : ∀ {j : Nat} {d : D}, (ρ.set i Slot.un)[j]? = some (.own d) → j ≠ i ∧ ρ[j]? = some (.own d) := fun {j d} h => by
    by_cases hj : j = i
    · subst hj
      have hl : j < ρ.length := by
        have := (List.getElem?_eq_some_iff.mp h).1
        simpa using this
      rw [List.getElem?_set_self hl] at h
      cases h
    · rw [List.getElem?_set_ne (Ne.symm hj)] at h
      exact ⟨hj, h⟩
  refine ⟨s.bse, s.pin, s.ext, ⟨by simp [s.env.len], fun j sl e => ?_, fun a b p d e hab h1 h2 h3 h4 => ?_⟩, fun j p d h1 h2 => ?_⟩
  · by_cases hj : j = i
    · subst hj
      have hl : j < ρ.length := by
        have := (List.getElem?_eq_some_iff.mp e).1
        simpa using this
      rw [List.getElem?_set_self hl] at e
      cases e
      exact ⟨o, by rw [List.getElem?_set_self (by rw [s.env.len]; exact hl)], trivial⟩
    · rw [List.getElem?_set_ne (Ne.symm hj)] at e ⊢
      exact s.env.at_ j sl e
  · obtain ⟨na, z2⟩ := key h2
    obtain ⟨nb, z4⟩ := key h4
    rw [List.getElem?_set_ne (Ne.symm na)] at h1
    rw [List.getElem?_set_ne (Ne.symm nb)] at h3
    exact s.env.sep a b p d e hab h1 z2 h3 z4
  · obtain ⟨nj, z2⟩ := key h2
    rw [List.getElem?_set_ne (Ne.symm nj)] at h1
    exact s.own j p d h1 z2
/-- one clause over data: the class that it catches, others that it lets by, its name's slot, its suite -/
structure Hd where
  y : Str
  no : List Str
  i : Nat
  ts : DSF
def hdW (N : DN) : List Hd → DXS
  | [] => fun _ _ _ => False
  | h :: r => fun ρ n fs => if n = h.y then h.ts fs { N with nx := fun ρ' => N.nx (ρ'.set h.i .un), bk := fun ρ' => N.bk (ρ'.set h.i .un), ct := fun ρ' => N.ct (ρ'.set h.i .un) } (ρ.set h.i .un) else n ∈ h.no ∧ hdW N r ρ n fs
def sTry (b : DSX) (hs : List Hd) : DS := fun N ρ => b (hdW N hs) N ρ
def Hd.cl (K : PySem.W.Frag) (h : Hd) : Cl := ⟨.ref (He.ga K h.y), h.i, fun a cls d => fun Dn σ H => cls = .ref (He.ga K h.y) ∧ (h.i < σ.length → lfSF K h.i a d h.y h.ts Dn σ H)⟩
section
variable {X : Cx}
inductive HdsD (X : Cx) : List ExceptHandler → List Hd → Prop
  | nil : HdsD X [] []
  | cons {n : Str} {h : Hd} {st : Stmt} {sts : List Stmt} {np pp : Pos} {hs : List ExceptHandler} {l : List Hd} (hi : X.N[h.i]? = some n) (hln : X.env.kindOf n = some .local) (hc : Names X h.y (.ref (He.ga X.K h.y)))
      (yes : PySem.W.exmOne X.K (.ref (He.ga X.K h.y)) (.ref (He.ga X.K h.y)) = some true) (no : ∀ m ∈ h.no, PySem.W.exmOne X.K (.ref (He.ga X.K m)) (.ref (He.ga X.K h.y)) = some false)
      (su : ∀ (a : Addr) (oe : Obj) (d : Option Addr) (pn : List (Addr × Obj)), Zc (.ref (He.ga X.K h.y)) d oe → (∃ vs, oe.data = .fields vs) → PSs (X.suite a ((a, oe) :: pn)) (st :: sts) (lfSF X.K h.i a d h.y h.ts)) (r : HdsD X hs l) :
      HdsD X (.ExceptHandler (some (.Name h.y np)) (some n) (st :: sts) pp :: hs) (h :: l)
theorem HdsD.cls {hs : List ExceptHandler} {l : List Hd} (h : HdsD X hs l) : ClsOk X hs (l.map (Hd.cl X.K)) := by
  induction h with
  | nil => exact .nil
  | @cons n h st sts np pp hs l hi hln hc yes no su r ih =>
    refine ClsOk.cons (q := h.cl X.K) hi hln hc (fun a o cls d pn hz hf => ?_) ih
    by_cases e : cls = .ref (He.ga X.K h.y)
    · subst e
      exact ⟨fun pins s σ H D I q => (su a o d pn hz hf).run pins s σ H D I (q.2 (by
        have h1 := I.len
        have h2 := (List.getElem?_eq_some_iff.mp hi).1
        have h3 : σ.length = X.N.length := h1
        omega))⟩
    · exact ⟨fun pins s σ H D I q => (e q.1).elim⟩
/-- what the clauses do with what the body lets out -/
theorem hdW_ok {K : PySem.W.Frag} {F0 H0 G : Hp} {N : DN} {Dn : Ends} (k : EndsOk K F0 H0 G N Dn) : ∀ {hs : List ExceptHandler} {l : List Hd}, X.K = K → HdsD X hs l → XOk K F0 H0 G (hdW N l) (wCls K (fun _ _ _ _ => False) Dn (l.map (Hd.cl K)))
  | [], [], _, _ => fun _ _ _ _ _ _ _ _ _ _ z => z.elim
  | _ :: _, h :: l, eK, .cons hi hln hc yes no su r => fun σ H F ρ cls d n fs s x w => by
    subst eK
    have hx := x
    obtain ⟨e1, _⟩ := hx
    subst e1
    have w' : (if n = h.y then _ else _) := w
    by_cases e : n = h.y
    · rw [if_pos e] at w'
      subst e
      refine ⟨true, yes, (fun _ a ha => ⟨rfl, fun hl => ?_⟩), (fun z => by cases z)⟩
      have ha : (σ.set h.i (some (V.ref a)))[h.i]? = some (some (.ref a)) := List.getElem?_set_self (by simpa using hl)
      exact ⟨F0, H0, G, F, ρ.set h.i .un, _, fs, s.setUn h.i _, ⟨ha, x⟩, w', ⟨fun σ' H' ρ' ⟨F', s'⟩ q => k.nx _ _ _ ⟨F', s'.setUn h.i none⟩ q, k.rt, k.ro, fun σ' H' ρ' ⟨F', s'⟩ q => k.bk _ _ _ ⟨F', s'.setUn h.i none⟩ q, fun σ' H' ρ' ⟨F', s'⟩ q => k.ct _ _ _ ⟨F', s'.setUn h.i none⟩ q⟩⟩
    · rw [if_neg e] at w'
      exact ⟨false, no n w'.1, (fun z => by cases z), fun _ => hdW_ok k rfl r _ _ _ _ _ _ _ _ s x w'.2⟩
theorem pds_try {body : List Stmt} {h0 : ExceptHandler} {hs : List ExceptHandler} {l : List Hd} {b : DSX} {pos : Pos} (hst : X.stack = X.env :: X.outer) (hf : X.env.frame = some X.env.locals) (hN : X.N.Nodup)
    (hb : ∀ (W : WX) (pn : List (Addr × Obj)) (xe : Value → Shared → Prop), Takes (X.tr pn xe) W → PassesOwn (model X.prog X.w) X.A X.env xe → PDXs (X.tr pn xe) W body b) (ch : HdsD X (h0 :: hs) l) : PDS X (.Try body (h0 :: hs) [] [] pos) (sTry b l) :=
  (ps_try_cls (Wo := fun _ _ _ _ => False) (tb := fun W => lfX X.K b W) hst hf hN takes0 hb ch.cls).impD fun N σ H ⟨F0, H0, G, ρ, M, so, ht, k⟩ =>
    ⟨F0, H0, G, ρ, M, _, so, ht, k, hdW_ok k rfl ch⟩
end

/-! ### what the classes must say, by one Bool -/
def allB (l : List Bool) : Bool := l.all id
theorem allB_at {l : List Bool} (h : allB l = true) (i : Nat) {b : Bool} (e : l[i]? = some b := by rfl) : b = true := List.all_eq_true.mp h b (List.mem_of_getElem? e)
/-- ValueError.__init__ read off the class -/
def vveB (K : PySem.W.Frag) : Bool := allB [decide (PySem.W.findIn K (.type "type") "__init__" = some (some (.builtin "type.__init__"))), decide (PySem.W.specialIn K (.builtin "type.__init__") "__get__" = some (some (.builtin "wrapper_descriptor.__get__"))),
  decide (PySem.W.takesIn K (.builtin "type.__init__") = some false), decide (PySem.W.findIn K (.type "ValueError") "__init__" = some (some (.builtin "ValueError.__init__"))), decide (PySem.W.typeIn K (.builtin "ValueError.__init__") = some (.type "wrapper_descriptor"))]
theorem vveB_ok {K : PySem.W.Frag} (h : vveB K = true) : PySem.W.findCls K (.type "ValueError") (.type "type") "__init__" = some (.val (.builtin "ValueError.__init__")) := by
  have h1 := of_decide_eq_true (allB_at h 0)
  have h2 := of_decide_eq_true (allB_at h 1)
  have h3 := of_decide_eq_true (allB_at h 2)
  have h4 := of_decide_eq_true (allB_at h 3)
  have h5 := of_decide_eq_true (allB_at h 4)
  have hn : Builtin.heldUnderItsOwnName ("__init__" : Str) (.builtin "ValueError.__init__") = false := by decide +kernel
  have hb : PySem.W.bareKinds.contains (.type "wrapper_descriptor") = true := by decide +kernel
  unfold PySem.W.findCls
  simp only [h1, h2, h3, h4, h5, hn, hb, Option.bind_some, Bool.false_eq_true, if_false, if_true]
def clsB (K : PySem.W.Frag) (n : Str) (gs : List Str) : Bool := oexB K (He.ga K n) && (excB K (He.ga K n) && (iniB K (He.ga K n) (He.ma K (He.ga K n) "__init__") && gs.all fun g => decide (PySem.W.findIn K (.ref (He.ga K n)) g = some none)))
structure ClsD (K : PySem.W.Frag) (n : Str) (gs : List Str) : Prop where
  ox : OexC K (He.ga K n)
  xf : XfC K (He.ga K n)
  is : ExcC K (He.ga K n)
  ini : IniC K (He.ga K n) (He.ma K (He.ga K n) "__init__")
  no : ∀ g ∈ gs, PySem.W.findIn K (.ref (He.ga K n)) g = some none
theorem clsB_ok {K : PySem.W.Frag} {n : Str} {gs : List Str} (h : clsB K n gs = true) : ClsD K n gs := by
  obtain ⟨h1, h⟩ := He.ba h
  obtain ⟨h2, h⟩ := He.ba h
  obtain ⟨h3, h4⟩ := He.ba h
  obtain ⟨k1, k2⟩ := excB_ok h2
  exact ⟨oexB_ok h1, k1, k2, iniB_ok h3, fun g hg => of_decide_eq_true (List.all_eq_true.mp h4 g hg)⟩
def exmB (K : PySem.W.Frag) (y z : Str) (b : Bool) : Bool := decide (PySem.W.exmOne K (.ref (He.ga K y)) (.ref (He.ga K z)) = some b)
theorem exmB_ok {K : PySem.W.Frag} {y z : Str} {b : Bool} (h : exmB K y z b = true) : PySem.W.exmOne K (.ref (He.ga K y)) (.ref (He.ga K z)) = some b := of_decide_eq_true h
def kitIB (K : PySem.W.Frag) (y : Str) (c : Value) (b : Bool) : Bool := decide (PySem.W.kitOne K (.ref (He.ga K y)) c = some b)
theorem kitIB_ok {K : PySem.W.Frag} {y : Str} {c : Value} {b : Bool} (h : kitIB K y c b = true) : PySem.W.kitOne K (.ref (He.ga K y)) c = some b := of_decide_eq_true h
/-- a class that is raised: without | with a field of its own -/
def Rs0 (P : Program) (w : World) (K : PySem.W.Frag) (mg : Str → Option Value) (base : Heap) (n : Str) : Prop := ∃ (fI : Addr) (fd : FuncData), ExD K mg n fI ∧ FnOk P w K mg base CX0 2 fI fd ["self"] (spI2 K n) ∧ Binds K fd ["self"] []
def Rs1 (P : Program) (w : World) (K : PySem.W.Frag) (mg : Str → Option Value) (base : Heap) (n g : Str) : Prop := ∃ (fI : Addr) (fd : FuncData), ExD K mg n fI ∧ PySem.W.findIn K (.ref (He.ga K n)) g = some none ∧ FnOk P w K mg base CX0 2 fI fd ["self", g] (spI3 K n g) ∧ Binds K fd ["self", g] []
section
variable {X : Cx} {W : WX} {e : Expr} {t : DE} {pos p : Pos} {n g : Str}
theorem pdx_rs0 {pp : Pos} (T : Rs0 X.prog X.w X.K X.mg X.base n) (tk : Takes X W) (hr : Room 3 X.A) (hc : X.calm = true := by rfl) (hg : Gl X n := by rfl) (hdb : (n == ("__debug__" : Str)) = false := by decide) : PDX X W (.Raise (some (.Call (.Name n pos) [] [] p)) none pp) (xRaise0 n) := by
  obtain ⟨fI, fd, T, F, hb⟩ := T
  exact pdx_raise0 hc tk T F hr hb hg hdb
theorem pdx_rs1 {pp : Pos} (T : Rs1 X.prog X.w X.K X.mg X.base n g) (tk : Takes X W) (hr : Room 3 X.A) (he : PD X e t) (hc : X.calm = true := by rfl) (hg : Gl X n := by rfl) (hdb : (n == ("__debug__" : Str)) = false := by decide)
    (hs : starEach [e] X.env = (false, eval e X.env) :: starEach [] X.env := by rfl) (hpl : (backTo p (starEach [] X.env)).any (·.1) = false := by rfl) : PDX X W (.Raise (some (.Call (.Name n pos) [e] [] p)) none pp) (xRaise1 n g t) := by
  obtain ⟨fI, fd, T, hno, F, hb⟩ := T
  exact pdx_raise1 hc tk T hno F hr hb he hg hdb hs hpl
/-- a def that may raise, where it does not -/
def noX (f : DSpX) : DSp := fun ds Q => f ds Q fun _ _ => False
theorem _root_.L2.PS.noxD {X : Cx} {st : Stmt} {t : TS} (h : PS X.nox st t) : PS X st t := ⟨fun p1 s1 σ1 H1 D1 I1 q1 =>
  wpAny_mono (h.run p1 s1 σ1 H1 D1 (I1.wish _) q1) (fun _ _ z => SP.unwish z) fun _ _ z => z.elim⟩
theorem pdx_nox {st : Stmt} {s0 : DS} (h : PDS X.nox st s0) : PDX X W st (xL s0) := pdx_of (PS.noxD h)
theorem pdxs_nil : PDXs X W [] (xL sNext) := pdxs_of pds_nil
end
theorem mkGdX {P : Program} {w : World} {K : PySem.W.Frag} {mg : Str → Option Value} {base : Heap} {nm : Str} {k : Nat} {dd : List D} {f : DSpX} {a : Addr} {fd : FuncData} {ps : List Str} (hm : mg nm = some (.ref a)) (hk : PySem.W.keepIn K (.ref a) = true)
    (F : FnOk P w K mg base (L2.CX P w) k a fd ps (spDX K f)) {dvs : List V} (b : ∃ ds, Vals dvs ds ∧ Binds K fd ps ds) (r : ∀ F, RpA K F dvs dd) : GdX P w K mg base nm k dd f := by
  obtain ⟨ds, h1, h2⟩ := b
  exact ⟨a, fd, ps, ds, dvs, hm, hk, F, h2, h1, r⟩
/-! ### the Hook: facts by names, one more Bool, the interpreter's statics -/
abbrev AlY : Type := He.AlD × Bool
def frY (n : Nat) (g : Addr → Option Obj) : PySem.W.Frag := He.frG g (He.asD g n ++ [PySem.cStatics])
def obsY (n : Nat) (fa : List He.Fa) (fn : List He.DefD) (ex : PySem.W.Frag → Bool) (g : Addr → Option Obj) : AlY := (He.obsD fa fn (frY n g), ex (frY n g))
structure SaysY (fa : List He.Fa) (fn : List He.DefD) (ex : PySem.W.Frag → Bool) (K : PySem.W.Frag) : Prop where
  c : He.SaysD fa fn K
  x : ex K = true
def hookY (n : Nat) (fa : List He.Fa) (fn : List He.DefD) (ex : PySem.W.Frag → Bool) : PySem.W.Hook where
  α := AlY
  obs := fun s => obsY n fa fn ex s.heap.get?
  val := fun _ => (He.valD fn, true)
  says := fun _ h => ∃ K : PySem.W.Frag, K.In h ∧ SaysY fa fn ex K
  of := fun _ s e => ⟨frY n s.heap.get?, He.frG_in, ⟨congrArg (fun z : AlY => z.1) e, congrArg (fun z : AlY => z.2) e⟩⟩
  keeps := fun _ _ _ z k => z.elim fun K q => ⟨K, PySem.W.Frag.In.keeps q.1 k, q.2⟩
theorem obsY_eq {n : Nat} {fa : List He.Fa} {fn : List He.DefD} {ex : PySem.W.Frag → Bool} {g : Addr → Option Obj} {s : Shared} (h : ∀ a, g a = s.heap.get? a) : obsY n fa fn ex g = (hookY n fa fn ex).obs s := by
  obtain rfl : g = s.heap.get? := funext h
  rfl
end DV

namespace DV
open PySem PySem.Spec PyProof.Rows L2
/-! the readings of the defs, by canon.json -/
def c_greatest : DSp := fnD 2 2
  (sSeq (sPar 0 1 (dCons (dB absD (dCons (dVar 0) dNil)) (dCons (dB absD (dCons (dVar 1) dNil)) dNil))) (sSeq (sWhile (dTest (dOp gtA (dVar 1) (dC (.int 0)))) (sPar 0 1 (dCons (dVar 1) (dCons (dOp modD (dVar 0) (dVar 1)) dNil)))) (sRet (dVar 0))))
def c_lowest : DSp := fnD 3 2
  (sSeq (sIf (dTest (dOp eqD (dVar 1) (dC (.int 0)))) sNever sNext) (sSeq (sSet 2 (dCall c_greatest [] (dCons (dVar 0) (dCons (dVar 1) dNil)))) (sSeq (sIf (dTest (dOp ltA (dVar 1) (dC (.int 0)))) (sSet 2 (dUn negD (dVar 2))) sNext) (sRet (dTup (dCons (dOp fdivD (dVar 0) (dVar 2)) (dCons (dOp fdivD (dVar 1) (dVar 2)) dNil)))))))
def c_plus : DSp := fnD 2 2
  (sRet (dCall c_lowest [] (dCons (dOp addD (dOp mulD (dOp ixD (dVar 0) (dC (.int 0))) (dOp ixD (dVar 1) (dC (.int 1)))) (dOp mulD (dOp ixD (dVar 1) (dC (.int 0))) (dOp ixD (dVar 0) (dC (.int 1))))) (dCons (dOp mulD (dOp ixD (dVar 0) (dC (.int 1))) (dOp ixD (dVar 1) (dC (.int 1)))) dNil))))
def c_less : DSp := fnD 2 2
  (sRet (dCall c_lowest [] (dCons (dOp subD (dOp mulD (dOp ixD (dVar 0) (dC (.int 0))) (dOp ixD (dVar 1) (dC (.int 1)))) (dOp mulD (dOp ixD (dVar 1) (dC (.int 0))) (dOp ixD (dVar 0) (dC (.int 1))))) (dCons (dOp mulD (dOp ixD (dVar 0) (dC (.int 1))) (dOp ixD (dVar 1) (dC (.int 1)))) dNil))))
def c_times : DSp := fnD 2 2
  (sRet (dCall c_lowest [] (dCons (dOp mulD (dOp ixD (dVar 0) (dC (.int 0))) (dOp ixD (dVar 1) (dC (.int 0)))) (dCons (dOp mulD (dOp ixD (dVar 0) (dC (.int 1))) (dOp ixD (dVar 1) (dC (.int 1)))) dNil))))
def c_below : DSp := fnD 2 2
  (sRet (dOp ltA (dOp mulD (dOp ixD (dVar 0) (dC (.int 0))) (dOp ixD (dVar 1) (dC (.int 1)))) (dOp mulD (dOp ixD (dVar 1) (dC (.int 0))) (dOp ixD (dVar 0) (dC (.int 1))))))
def c_law_of : DSp := fnD 2 2
  (sRet (dOp ixD (dVar 1) (dCall pullD [] (dCons (dVar 0) (dCons (dB lenD (dCons (dVar 1) dNil)) dNil)))))
def t_law_like (self : DSp) : DS :=
  (sSeq (sIf (dTest (dIsi "dict" (dVar 1))) sNever sNext) (sSeq (sIf (dOr (dTest (dOp neD (dIsi "tuple" (dVar 1)) (dIsi "tuple" (dVar 0)))) (dTest (dOp neD (dIsi "list" (dVar 1)) (dIsi "list" (dVar 0))))) (sRet (dC (.bl false))) sNext) (sSeq (sIf (dNot (dTest (dIsi2 "tuple" "list" (dVar 1)))) (sRet (dAndV (dOp eqD (dIsi "bool" (dVar 0)) (dIsi "bool" (dVar 1))) (dOp eqD (dVar 0) (dVar 1)))) sNext) (sRet (dAndV (dOp eqD (dB lenD (dCons (dVar 0) dNil)) (dB lenD (dCons (dVar 1) dNil))) (dB allD (dCons (dLc (iRng1D (dCons (dB lenD (dCons (dVar 1) dNil)) dNil)) (gN 2) dYes (dCall self [] (dCons (dOp ixD (dVar 0) (dVar 2)) (dCons (dOp ixD (dVar 1) (dVar 2)) dNil))) [2]) dNil)))))))
def c_law_like : Nat → DSp
  | 0 => fun _ _ => False
  | n + 1 => fnD 3 2 (t_law_like (c_law_like n))
def c_law_low : DSp := fnD 3 2
  (sSeq (sSet 2 (dCall c_greatest [] (dCons (dVar 0) (dCons (dVar 1) dNil)))) (sSeq (sIf (dTest (dOp ltA (dVar 1) (dC (.int 0)))) (sSet 2 (dOp subD (dC (.int 0)) (dVar 2))) sNext) (sRet (dTup (dCons (dOp fdivD (dVar 0) (dVar 2)) (dCons (dOp fdivD (dVar 1) (dVar 2)) dNil))))))
def c_law_over : DSp := fnD 2 1
  (sSeq (sSet 1 (dCall c_law_of [] (dCons (dVar 0) (dCons (dLst (dCons (dC (.int 3)) (dCons (dC (.int 12)) (dCons (dC (.int 100)) (dCons (dOp powD (dC (.int 10)) (dC (.int 9))) dNil))))) dNil)))) (sRet (dOp addD (dOp subD (dCall pullD [] (dCons (dVar 0) (dCons (dOp subD (dOp mulD (dC (.int 2)) (dVar 1)) (dC (.int 1))) dNil))) (dVar 1)) (dC (.int 1)))))
def c_law_part : DSp := fnD 1 1
  (sRet (dCall c_law_low [] (dCons (dCall c_law_over [] (dCons (dVar 0) dNil)) (dCons (dOp addD (dC (.int 1)) (dCall pullD [] (dCons (dVar 0) (dCons (dCall c_law_of [] (dCons (dVar 0) (dCons (dLst (dCons (dC (.int 2)) (dCons (dC (.int 6)) (dCons (dC (.int 40)) (dCons (dOp subD (dOp powD (dC (.int 10)) (dC (.int 9))) (dC (.int 1))) dNil))))) dNil))) dNil)))) dNil))))
def c_nearest : DSp := fnD 1 1
  (sRet (dOp fdivD (dOp addD (dOp mulD (dC (.int 2)) (dOp ixD (dVar 0) (dC (.int 0)))) (dOp ixD (dVar 0) (dC (.int 1)))) (dOp mulD (dC (.int 2)) (dOp ixD (dVar 0) (dC (.int 1))))))
def c_square_of : DSp := fnD 1 1
  (sRet (dTup (dCons (dCall c_nearest [] (dCons (dOp ixD (dVar 0) (dC (.int 0))) dNil)) (dCons (dCall c_nearest [] (dCons (dOp ixD (dVar 0) (dC (.int 1))) dNil)) dNil))))
def c_law_about : DSp := fnD 4 1
  (sSeq (sPar 2 3 (dCons (dOp subD (dCall pullD [] (dCons (dVar 0) (dCons (dC (.int 81)) dNil))) (dC (.int 40))) (dCons (dOp addD (dC (.int 2)) (dCall pullD [] (dCons (dVar 0) (dCons (dOp powD (dC (.int 10)) (dC (.int 6))) dNil)))) dNil))) (sSeq (sSet 1 (dLst (dCons (dTup (dCons (dOp addD (dOp mulD (dC (.int 2)) (dVar 2)) (dC (.int 1))) (dCons (dC (.int 2)) dNil))) (dCons (dTup (dCons (dVar 2) (dCons (dC (.int 1)) dNil))) (dCons (dCall c_law_low [] (dCons (dOp subD (dOp mulD (dOp addD (dOp mulD (dC (.int 2)) (dVar 2)) (dC (.int 1))) (dVar 3)) (dC (.int 1))) (dCons (dOp mulD (dC (.int 2)) (dVar 3)) dNil))) dNil))))) (sRet (dCall c_law_of [] (dCons (dVar 0) (dCons (dOp addD (dVar 1) (dLst (dCons (dCall c_law_low [] (dCons (dOp addD (dOp mulD (dOp addD (dOp mulD (dC (.int 2)) (dVar 2)) (dC (.int 1))) (dVar 3)) (dC (.int 1))) (dCons (dOp mulD (dC (.int 2)) (dVar 3)) dNil))) (dCons (dCall c_law_part [] (dCons (dVar 0) dNil)) dNil)))) dNil))))))
def c_is_spot : DSp := fnD 1 1
  (sRet (dAndV (dChain leA leA (dUn negD (dC (.int 40))) (dOp ixD (dVar 0) (dC (.int 0))) (dC (.int 40))) (dChain leA leA (dUn negD (dC (.int 40))) (dOp ixD (dVar 0) (dC (.int 1))) (dC (.int 40)))))
def c_cross : DSp := fnD 3 3
  (sRet (dOp subD (dOp mulD (dOp subD (dOp ixD (dVar 1) (dC (.int 0))) (dOp ixD (dVar 0) (dC (.int 0)))) (dOp subD (dOp ixD (dVar 2) (dC (.int 1))) (dOp ixD (dVar 0) (dC (.int 1))))) (dOp mulD (dOp subD (dOp ixD (dVar 1) (dC (.int 1))) (dOp ixD (dVar 0) (dC (.int 1)))) (dOp subD (dOp ixD (dVar 2) (dC (.int 0))) (dOp ixD (dVar 0) (dC (.int 0)))))))
def c_sign : DSp := fnD 1 1
  (sRet (dOp subD (dB intC (dCons (dOp gtA (dVar 0) (dC (.int 0))) dNil)) (dB intC (dCons (dOp ltA (dVar 0) (dC (.int 0))) dNil))))
def c_turning : DSp := fnD 3 3
  (sRet (dCall c_sign [] (dCons (dCall c_cross [] (dCons (dVar 0) (dCons (dVar 1) (dCons (dVar 2) dNil)))) dNil)))
def c_law_clipped : DSp := fnD 1 1
  (sRet (dB max2A (dCons (dUn negD (dC (.int 40))) (dCons (dB min2A (dCons (dC (.int 40)) (dCons (dVar 0) dNil))) dNil))))
def c_law_spot : DSp := fnD 4 3
  (sSeq (sSet 3 (dCall c_law_clipped [] (dCons (dOp subD (dOp addD (dOp ixD (dVar 1) (dC (.int 0))) (dCall pullD [] (dCons (dVar 0) (dCons (dOp addD (dOp mulD (dC (.int 2)) (dVar 2)) (dC (.int 1))) dNil)))) (dVar 2)) dNil))) (sRet (dTup (dCons (dVar 3) (dCons (dCall c_law_clipped [] (dCons (dOp subD (dOp addD (dOp ixD (dVar 1) (dC (.int 1))) (dCall pullD [] (dCons (dVar 0) (dCons (dOp addD (dOp mulD (dC (.int 2)) (dVar 2)) (dC (.int 1))) dNil)))) (dVar 2)) dNil)) dNil)))))
def c_law_base : DSp := fnD 2 1
  (sSeq (sSet 1 (dTup (dCons (dOp subD (dCall pullD [] (dCons (dVar 0) (dCons (dC (.int 81)) dNil))) (dC (.int 40))) (dCons (dOp subD (dCall pullD [] (dCons (dVar 0) (dCons (dC (.int 81)) dNil))) (dC (.int 40))) dNil)))) (sRet (dCall c_law_of [] (dCons (dVar 0) (dCons (dLst (dCons (dTup (dCons (dC (.int 0)) (dCons (dC (.int 0)) dNil))) (dCons (dTup (dCons (dC (.int 0)) (dCons (dC (.int 0)) dNil))) (dCons (dTup (dCons (dC (.int 0)) (dCons (dC (.int 0)) dNil))) (dCons (dTup (dCons (dUn negD (dC (.int 38))) (dCons (dUn negD (dC (.int 38))) dNil))) (dCons (dTup (dCons (dC (.int 38)) (dCons (dC (.int 38)) dNil))) (dCons (dTup (dCons (dC (.int 37)) (dCons (dUn negD (dC (.int 39))) dNil))) (dCons (dVar 1) dNil)))))))) dNil)))))
def c_law_side : DSp := fnD 4 3
  (sSeq (sSet 3 (dCall c_cross [] (dCons (dVar 0) (dCons (dVar 1) (dCons (dVar 2) dNil))))) (sRet (dOp subD (dB intC (dCons (dOp gtA (dVar 3) (dC (.int 0))) dNil)) (dB intC (dCons (dOp ltA (dVar 3) (dC (.int 0))) dNil)))))
def c_common : DSp := fnD 4 2
  (sSeq (sSet 2 (dB max2A (dCons (dB min2A (dCons (dSl (dVar 0) dNo (dPart (dC (.int 2)))) (dCons (dSl (dVar 0) (dPart (dC (.int 2))) dNo) dNil))) (dCons (dB min2A (dCons (dSl (dVar 1) dNo (dPart (dC (.int 2)))) (dCons (dSl (dVar 1) (dPart (dC (.int 2))) dNo) dNil))) dNil)))) (sSeq (sSet 3 (dB min2A (dCons (dB max2A (dCons (dSl (dVar 0) dNo (dPart (dC (.int 2)))) (dCons (dSl (dVar 0) (dPart (dC (.int 2))) dNo) dNil))) (dCons (dB max2A (dCons (dSl (dVar 1) dNo (dPart (dC (.int 2)))) (dCons (dSl (dVar 1) (dPart (dC (.int 2))) dNo) dNil))) dNil)))) (sSeq (sIf (dTest (dOp gtA (dVar 2) (dVar 3))) (sRet (dC .non)) sNext) (sSeq (sIf (dTest (dOp eqD (dVar 2) (dVar 3))) (sRet (dTup (dCons (dC (.str "at")) (dCons (dTup (dCons (dTup (dCons (dOp ixD (dVar 2) (dC (.int 0))) (dCons (dC (.int 1)) dNil))) (dCons (dTup (dCons (dOp ixD (dVar 2) (dC (.int 1))) (dCons (dC (.int 1)) dNil))) dNil))) dNil)))) sNext) (sRet (dTup (dCons (dC (.str "along")) (dCons (dVar 2) (dCons (dVar 3) dNil)))))))))
def c_meet : DSp := fnD 12 2
  (sSeq (sPar 6 7 (dCons (dOp subD (dOp ixD (dVar 0) (dC (.int 2))) (dOp ixD (dVar 0) (dC (.int 0)))) (dCons (dOp subD (dOp ixD (dVar 0) (dC (.int 3))) (dOp ixD (dVar 0) (dC (.int 1)))) dNil))) (sSeq (sPar 8 9 (dCons (dOp subD (dOp ixD (dVar 1) (dC (.int 2))) (dOp ixD (dVar 1) (dC (.int 0)))) (dCons (dOp subD (dOp ixD (dVar 1) (dC (.int 3))) (dOp ixD (dVar 1) (dC (.int 1)))) dNil))) (sSeq (sPar 10 11 (dCons (dOp subD (dOp ixD (dVar 1) (dC (.int 0))) (dOp ixD (dVar 0) (dC (.int 0)))) (dCons (dOp subD (dOp ixD (dVar 1) (dC (.int 1))) (dOp ixD (dVar 0) (dC (.int 1)))) dNil))) (sSeq (sSet 2 (dOp subD (dOp mulD (dVar 6) (dVar 9)) (dOp mulD (dVar 7) (dVar 8)))) (sSeq (sIf (dTest (dOp eqD (dVar 2) (dC (.int 0)))) (sRet (dIf (dTest (dOp eqD (dOp subD (dOp mulD (dVar 10) (dVar 7)) (dOp mulD (dVar 11) (dVar 6))) (dC (.int 0)))) (dCall c_common [] (dCons (dVar 0) (dCons (dVar 1) dNil))) (dC .non))) sNext) (sSeq (sSet 3 (dCall c_lowest [] (dCons (dOp subD (dOp mulD (dVar 10) (dVar 9)) (dOp mulD (dVar 11) (dVar 8))) (dCons (dVar 2) dNil)))) (sSeq (sSet 4 (dCall c_lowest [] (dCons (dOp subD (dOp mulD (dVar 10) (dVar 7)) (dOp mulD (dVar 11) (dVar 6))) (dCons (dVar 2) dNil)))) (sSeq (sIf (dOr (dTest (dCall c_below [] (dCons (dVar 3) (dCons (dTup (dCons (dC (.int 0)) (dCons (dC (.int 1)) dNil))) dNil)))) (dOr (dTest (dCall c_below [] (dCons (dTup (dCons (dC (.int 1)) (dCons (dC (.int 1)) dNil))) (dCons (dVar 3) dNil)))) (dOr (dTest (dCall c_below [] (dCons (dVar 4) (dCons (dTup (dCons (dC (.int 0)) (dCons (dC (.int 1)) dNil))) dNil)))) (dTest (dCall c_below [] (dCons (dTup (dCons (dC (.int 1)) (dCons (dC (.int 1)) dNil))) (dCons (dVar 4) dNil))))))) (sRet (dC .non)) sNext) (sSeq (sSet 5 (dCall c_plus [] (dCons (dTup (dCons (dOp ixD (dVar 0) (dC (.int 0))) (dCons (dC (.int 1)) dNil))) (dCons (dCall c_lowest [] (dCons (dOp mulD (dOp ixD (dVar 3) (dC (.int 0))) (dVar 6)) (dCons (dOp ixD (dVar 3) (dC (.int 1))) dNil))) dNil)))) (sRet (dTup (dCons (dC (.str "at")) (dCons (dTup (dCons (dVar 5) (dCons (dCall c_plus [] (dCons (dTup (dCons (dOp ixD (dVar 0) (dC (.int 1))) (dCons (dC (.int 1)) dNil))) (dCons (dCall c_lowest [] (dCons (dOp mulD (dOp ixD (dVar 3) (dC (.int 0))) (dVar 7)) (dCons (dOp ixD (dVar 3) (dC (.int 1))) dNil))) dNil))) dNil))) dNil)))))))))))))
def c_law_stroke : DSp := fnD 5 3
  (sSeq (sPar 3 4 (dCons (dCall c_law_spot [] (dCons (dVar 0) (dCons (dVar 1) (dCons (dVar 2) dNil)))) (dCons (dCall c_law_spot [] (dCons (dVar 0) (dCons (dVar 1) (dCons (dVar 2) dNil)))) dNil))) (sSeq (sIf (dTest (dOp eqD (dVar 3) (dVar 4))) (sSet 4 (dTup (dCons (dOp addD (dOp ixD (dVar 4) (dC (.int 0))) (dIf (dTest (dOp ltA (dOp ixD (dVar 4) (dC (.int 0))) (dC (.int 40)))) (dC (.int 1)) (dUn negD (dC (.int 1))))) (dCons (dOp ixD (dVar 4) (dC (.int 1))) dNil)))) sNext) (sRet (dOp addD (dVar 3) (dVar 4)))))
def c_law_beside : DSp := fnD 9 4
  (sSeq (sSet 4 (dCall c_law_stroke [] (dCons (dVar 0) (dCons (dVar 1) (dCons (dVar 2) dNil))))) (sSeq (sSet 5 (dCall pullD [] (dCons (dVar 0) (dCons (dC (.int 7)) dNil)))) (sSeq (sIf (dOr (dTest (dOp eqD (dVar 3) (dLst dNil))) (dTest (dOp gtA (dVar 5) (dC (.int 2))))) (sRet (dVar 4)) sNext) (sSeq (sSet 6 (dCall c_law_of [] (dCons (dVar 0) (dCons (dVar 3) dNil)))) (sSeq (sIf (dAnd (dTest (dOp eqD (dVar 5) (dC (.int 0)))) (dTest (dOp neD (dSl (dVar 6) (dPart (dC (.int 2))) dNo) (dSl (dVar 4) (dPart (dC (.int 2))) dNo)))) (sRet (dOp addD (dSl (dVar 6) (dPart (dC (.int 2))) dNo) (dSl (dVar 4) (dPart (dC (.int 2))) dNo))) sNext) (sSeq (sPar 7 8 (dCons (dOp subD (dOp mulD (dC (.int 2)) (dOp ixD (dVar 6) (dC (.int 2)))) (dOp ixD (dVar 6) (dC (.int 0)))) (dCons (dOp subD (dOp mulD (dC (.int 2)) (dOp ixD (dVar 6) (dC (.int 3)))) (dOp ixD (dVar 6) (dC (.int 1)))) dNil))) (sSeq (sIf (dAnd (dTest (dOp eqD (dVar 5) (dC (.int 1)))) (dTest (dOp ltA (dB max2A (dCons (dB absD (dCons (dVar 7) dNil)) (dCons (dB absD (dCons (dVar 8) dNil)) dNil))) (dC (.int 41))))) (sRet (dOp addD (dSl (dVar 6) dNo (dPart (dC (.int 2)))) (dTup (dCons (dVar 7) (dCons (dVar 8) dNil))))) sNext) (sRet (dIf (dTest (dOp eqD (dVar 5) (dC (.int 2)))) (dOp addD (dSl (dVar 6) (dPart (dC (.int 2))) dNo) (dSl (dVar 6) dNo (dPart (dC (.int 2))))) (dVar 4))))))))))
def c_law_meet : DSp := fnD 9 2
  (sSeq (sSet 2 (dLst (dCons (dSl (dVar 0) dNo (dPart (dC (.int 2)))) (dCons (dSl (dVar 0) (dPart (dC (.int 2))) dNo) (dCons (dSl (dVar 1) dNo (dPart (dC (.int 2)))) (dCons (dSl (dVar 1) (dPart (dC (.int 2))) dNo) dNil)))))) (sSeq (sSet 3 (dLst (dCons (dCall c_cross [] (dCons (dOp ixD (dVar 2) (dC (.int 0))) (dCons (dOp ixD (dVar 2) (dC (.int 1))) (dCons (dOp ixD (dVar 2) (dC (.int 2))) dNil)))) (dCons (dCall c_cross [] (dCons (dOp ixD (dVar 2) (dC (.int 0))) (dCons (dOp ixD (dVar 2) (dC (.int 1))) (dCons (dOp ixD (dVar 2) (dC (.int 3))) dNil)))) dNil)))) (sSeq (sSet 4 (dLst (dCons (dCall c_cross [] (dCons (dOp ixD (dVar 2) (dC (.int 2))) (dCons (dOp ixD (dVar 2) (dC (.int 3))) (dCons (dOp ixD (dVar 2) (dC (.int 0))) dNil)))) (dCons (dCall c_cross [] (dCons (dOp ixD (dVar 2) (dC (.int 2))) (dCons (dOp ixD (dVar 2) (dC (.int 3))) (dCons (dOp ixD (dVar 2) (dC (.int 1))) dNil)))) dNil)))) (sSeq (sIf (dTest (dOp eqD (dVar 3) (dLst (dCons (dC (.int 0)) (dCons (dC (.int 0)) dNil))))) (sSeq (sSet 7 (dB max2A (dCons (dB min2A (dCons (dOp ixD (dVar 2) (dC (.int 0))) (dCons (dOp ixD (dVar 2) (dC (.int 1))) dNil))) (dCons (dB min2A (dCons (dOp ixD (dVar 2) (dC (.int 2))) (dCons (dOp ixD (dVar 2) (dC (.int 3))) dNil))) dNil)))) (sSeq (sSet 8 (dB min2A (dCons (dB max2A (dCons (dOp ixD (dVar 2) (dC (.int 0))) (dCons (dOp ixD (dVar 2) (dC (.int 1))) dNil))) (dCons (dB max2A (dCons (dOp ixD (dVar 2) (dC (.int 2))) (dCons (dOp ixD (dVar 2) (dC (.int 3))) dNil))) dNil)))) (sSeq (sIf (dTest (dOp ltA (dVar 7) (dVar 8))) (sRet (dTup (dCons (dC (.str "along")) (dCons (dVar 7) (dCons (dVar 8) dNil))))) sNext) (sRet (dIf (dTest (dOp eqD (dVar 7) (dVar 8))) (dTup (dCons (dC (.str "at")) (dCons (dTup (dCons (dTup (dCons (dOp ixD (dVar 7) (dC (.int 0))) (dCons (dC (.int 1)) dNil))) (dCons (dTup (dCons (dOp ixD (dVar 7) (dC (.int 1))) (dCons (dC (.int 1)) dNil))) dNil))) dNil))) (dC .non)))))) sNext) (sSeq (sIf (dOr (dTest (dOp gtA (dOp mulD (dOp ixD (dVar 3) (dC (.int 0))) (dOp ixD (dVar 3) (dC (.int 1)))) (dC (.int 0)))) (dTest (dOp gtA (dOp mulD (dOp ixD (dVar 4) (dC (.int 0))) (dOp ixD (dVar 4) (dC (.int 1)))) (dC (.int 0))))) (sRet (dC .non)) sNext) (sSeq (sSet 5 (dOp subD (dOp ixD (dVar 3) (dC (.int 0))) (dOp ixD (dVar 3) (dC (.int 1))))) (sSeq (sSet 6 (dCall c_law_low [] (dCons (dOp addD (dOp mulD (dOp ixD (dVar 1) (dC (.int 0))) (dVar 5)) (dOp mulD (dOp subD (dOp ixD (dVar 1) (dC (.int 2))) (dOp ixD (dVar 1) (dC (.int 0)))) (dOp ixD (dVar 3) (dC (.int 0))))) (dCons (dVar 5) dNil)))) (sRet (dTup (dCons (dC (.str "at")) (dCons (dTup (dCons (dVar 6) (dCons (dCall c_law_low [] (dCons (dOp addD (dOp mulD (dOp ixD (dVar 1) (dC (.int 1))) (dVar 5)) (dOp mulD (dOp subD (dOp ixD (dVar 1) (dC (.int 3))) (dOp ixD (dVar 1) (dC (.int 1)))) (dOp ixD (dVar 3) (dC (.int 0))))) (dCons (dVar 5) dNil))) dNil))) dNil)))))))))))
def c_span : DSp := fnD 5 3
  (sSeq (sIf (dTest (dOp eqD (dVar 1) (dC (.int 0)))) (sRet (dIf (dTest (dOp eqD (dVar 2) (dVar 0))) (dTup (dCons (dTup (dCons (dC (.int 0)) (dCons (dC (.int 1)) dNil))) (dCons (dC (.bl true)) (dCons (dTup (dCons (dC (.int 1)) (dCons (dC (.int 1)) dNil))) (dCons (dC (.bl true)) dNil))))) (dC .non))) sNext) (sSeq (sSet 3 (dCall c_lowest [] (dCons (dOp subD (dOp mulD (dC (.int 2)) (dOp subD (dVar 2) (dVar 0))) (dC (.int 1))) (dCons (dOp mulD (dC (.int 2)) (dVar 1)) dNil)))) (sSeq (sSet 4 (dCall c_lowest [] (dCons (dOp addD (dOp mulD (dC (.int 2)) (dOp subD (dVar 2) (dVar 0))) (dC (.int 1))) (dCons (dOp mulD (dC (.int 2)) (dVar 1)) dNil)))) (sRet (dIf (dTest (dOp gtA (dVar 1) (dC (.int 0)))) (dTup (dCons (dVar 3) (dCons (dC (.bl true)) (dCons (dVar 4) (dCons (dC (.bl false)) dNil))))) (dTup (dCons (dVar 4) (dCons (dC (.bl false)) (dCons (dVar 3) (dCons (dC (.bl true)) dNil))))))))))
def c_law_clip : DSp := fnD 4 4
  (sSeq (sIf (dTest (dOp eqD (dVar 1) (dC (.int 0)))) (sRet (dIf (dTest (dChain leA leA (dVar 2) (dVar 0) (dVar 3))) (dLst (dCons (dTup (dCons (dC (.int 0)) (dCons (dC (.int 1)) dNil))) (dCons (dTup (dCons (dC (.int 1)) (dCons (dC (.int 1)) dNil))) dNil))) (dLst dNil))) sNext) (sSeq (sIf (dTest (dOp ltA (dVar 1) (dC (.int 0)))) (sRet (dLst (dCons (dTup (dCons (dOp subD (dVar 0) (dVar 3)) (dCons (dOp subD (dC (.int 0)) (dVar 1)) dNil))) (dCons (dTup (dCons (dOp subD (dVar 0) (dVar 2)) (dCons (dOp subD (dC (.int 0)) (dVar 1)) dNil))) dNil)))) sNext) (sRet (dLst (dCons (dTup (dCons (dOp subD (dVar 2) (dVar 0)) (dCons (dVar 1) dNil))) (dCons (dTup (dCons (dOp subD (dVar 3) (dVar 0)) (dCons (dVar 1) dNil))) dNil))))))
def c_law_later : DSp := fnD 2 2
  (sRet (dIf (dTest (dOp gtA (dOp mulD (dOp ixD (dVar 0) (dC (.int 0))) (dOp ixD (dVar 1) (dC (.int 1)))) (dOp mulD (dOp ixD (dVar 1) (dC (.int 0))) (dOp ixD (dVar 0) (dC (.int 1)))))) (dVar 0) (dVar 1)))
def c_law_sooner : DSp := fnD 2 2
  (sRet (dIf (dTest (dOp ltA (dOp mulD (dOp ixD (dVar 0) (dC (.int 0))) (dOp ixD (dVar 1) (dC (.int 1)))) (dOp mulD (dOp ixD (dVar 1) (dC (.int 0))) (dOp ixD (dVar 0) (dC (.int 1)))))) (dVar 0) (dVar 1)))
def c_law_inside : DSp := fnD 8 3
  (sSeq (sAsg (dVar 1) (gT 2 (gsCons (gN 6) (gsCons (gN 7) gsNil)))) (sSeq (sSet 3 (dOp addD (dOp mulD (dOp mulD (dC (.int 2)) (dOp ixD (dVar 0) (dC (.int 0)))) (dVar 7)) (dOp mulD (dOp mulD (dC (.int 2)) (dOp subD (dOp ixD (dVar 0) (dC (.int 2))) (dOp ixD (dVar 0) (dC (.int 0))))) (dVar 6)))) (sSeq (sSet 4 (dOp addD (dOp mulD (dOp mulD (dC (.int 2)) (dOp ixD (dVar 0) (dC (.int 1)))) (dVar 7)) (dOp mulD (dOp mulD (dC (.int 2)) (dOp subD (dOp ixD (dVar 0) (dC (.int 3))) (dOp ixD (dVar 0) (dC (.int 1))))) (dVar 6)))) (sSeq (sSet 5 (dChain leA ltA (dOp mulD (dOp subD (dOp mulD (dC (.int 2)) (dOp ixD (dVar 2) (dC (.int 0)))) (dC (.int 1))) (dVar 7)) (dVar 3) (dOp mulD (dOp addD (dOp mulD (dC (.int 2)) (dOp ixD (dVar 2) (dC (.int 0)))) (dC (.int 1))) (dVar 7)))) (sRet (dAndV (dVar 5) (dChain leA ltA (dOp mulD (dOp subD (dOp mulD (dC (.int 2)) (dOp ixD (dVar 2) (dC (.int 1)))) (dC (.int 1))) (dVar 7)) (dVar 4) (dOp mulD (dOp addD (dOp mulD (dC (.int 2)) (dOp ixD (dVar 2) (dC (.int 1)))) (dC (.int 1))) (dVar 7)))))))))
def c_law_goes : DSp := fnD 8 2
  (sSeq (sSet 2 (dCall c_law_clip [] (dCons (dOp mulD (dC (.int 2)) (dOp ixD (dVar 0) (dC (.int 0)))) (dCons (dOp mulD (dC (.int 2)) (dOp subD (dOp ixD (dVar 0) (dC (.int 2))) (dOp ixD (dVar 0) (dC (.int 0))))) (dCons (dOp subD (dOp mulD (dC (.int 2)) (dOp ixD (dVar 1) (dC (.int 0)))) (dC (.int 1))) (dCons (dOp addD (dOp mulD (dC (.int 2)) (dOp ixD (dVar 1) (dC (.int 0)))) (dC (.int 1))) dNil)))))) (sSeq (sSet 3 (dCall c_law_clip [] (dCons (dOp mulD (dC (.int 2)) (dOp ixD (dVar 0) (dC (.int 1)))) (dCons (dOp mulD (dC (.int 2)) (dOp subD (dOp ixD (dVar 0) (dC (.int 3))) (dOp ixD (dVar 0) (dC (.int 1))))) (dCons (dOp subD (dOp mulD (dC (.int 2)) (dOp ixD (dVar 1) (dC (.int 1)))) (dC (.int 1))) (dCons (dOp addD (dOp mulD (dC (.int 2)) (dOp ixD (dVar 1) (dC (.int 1)))) (dC (.int 1))) dNil)))))) (sSeq (sIf (dOr (dTest (dOp eqD (dVar 2) (dLst dNil))) (dTest (dOp eqD (dVar 3) (dLst dNil)))) (sRet (dC (.bl false))) sNext) (sSeq (sSet 4 (dCall c_law_later [] (dCons (dTup (dCons (dC (.int 0)) (dCons (dC (.int 1)) dNil))) (dCons (dCall c_law_later [] (dCons (dOp ixD (dVar 2) (dC (.int 0))) (dCons (dOp ixD (dVar 3) (dC (.int 0))) dNil))) dNil)))) (sSeq (sSet 5 (dCall c_law_sooner [] (dCons (dTup (dCons (dC (.int 1)) (dCons (dC (.int 1)) dNil))) (dCons (dCall c_law_sooner [] (dCons (dOp ixD (dVar 2) (dC (.int 1))) (dCons (dOp ixD (dVar 3) (dC (.int 1))) dNil))) dNil)))) (sSeq (sIf (dTest (dOp ltA (dOp mulD (dOp ixD (dVar 5) (dC (.int 0))) (dOp ixD (dVar 4) (dC (.int 1)))) (dOp mulD (dOp ixD (dVar 4) (dC (.int 0))) (dOp ixD (dVar 5) (dC (.int 1)))))) (sRet (dC (.bl false))) sNext) (sSeq (sSet 6 (dTup (dCons (dOp addD (dOp mulD (dOp ixD (dVar 4) (dC (.int 0))) (dOp ixD (dVar 5) (dC (.int 1)))) (dOp mulD (dOp ixD (dVar 5) (dC (.int 0))) (dOp ixD (dVar 4) (dC (.int 1))))) (dCons (dOp mulD (dOp mulD (dC (.int 2)) (dOp ixD (dVar 4) (dC (.int 1)))) (dOp ixD (dVar 5) (dC (.int 1)))) dNil)))) (sRet (dB anyD (dCons (dLc (iSeq (dLst (dCons (dVar 4) (dCons (dVar 5) (dCons (dVar 6) dNil))))) (gN 7) dYes (dCall c_law_inside [] (dCons (dVar 0) (dCons (dVar 7) (dCons (dVar 1) dNil)))) [7]) dNil))))))))))
def c_law_near_spot : DSp := fnD 5 2
  (sSeq (sSet 2 (dCall pullD [] (dCons (dVar 0) (dCons (dC (.int 9)) dNil)))) (sSeq (sSet 3 (dOp addD (dOp ixD (dVar 1) (dC (.int 0))) (dOp fdivD (dOp mulD (dOp subD (dOp ixD (dVar 1) (dC (.int 2))) (dOp ixD (dVar 1) (dC (.int 0)))) (dVar 2)) (dC (.int 8))))) (sSeq (sSet 4 (dOp addD (dOp ixD (dVar 1) (dC (.int 1))) (dOp fdivD (dOp mulD (dOp subD (dOp ixD (dVar 1) (dC (.int 3))) (dOp ixD (dVar 1) (dC (.int 1)))) (dVar 2)) (dC (.int 8))))) (sRet (dTup (dCons (dCall c_law_clipped [] (dCons (dOp subD (dOp addD (dVar 3) (dCall pullD [] (dCons (dVar 0) (dCons (dC (.int 3)) dNil)))) (dC (.int 1))) dNil)) (dCons (dCall c_law_clipped [] (dCons (dOp subD (dOp addD (dVar 4) (dCall pullD [] (dCons (dVar 0) (dCons (dC (.int 3)) dNil)))) (dC (.int 1))) dNil)) dNil)))))))
def c_law_slanted : DSp := fnD 6 1
  (sSeq (sSet 1 (dCall c_law_base [] (dCons (dVar 0) dNil))) (sSeq (sSet 2 (dCall c_law_of [] (dCons (dVar 0) (dCons (dLst (dCons (dTup (dCons (dC (.int 1)) (dCons (dC (.int 1)) dNil))) (dCons (dTup (dCons (dC (.int 1)) (dCons (dUn negD (dC (.int 1))) dNil))) (dCons (dTup (dCons (dC (.int 3)) (dCons (dC (.int 1)) dNil))) (dCons (dTup (dCons (dC (.int 1)) (dCons (dC (.int 3)) dNil))) (dCons (dTup (dCons (dUn negD (dC (.int 5))) (dCons (dC (.int 3)) dNil))) (dCons (dTup (dCons (dUn negD (dC (.int 1))) (dCons (dUn negD (dC (.int 3))) dNil))) (dCons (dTup (dCons (dC (.int 0)) (dCons (dC (.int 1)) dNil))) (dCons (dTup (dCons (dUn negD (dC (.int 1))) (dCons (dC (.int 0)) dNil))) dNil))))))))) dNil)))) (sSeq (sSet 3 (dOp addD (dC (.int 1)) (dCall pullD [] (dCons (dVar 0) (dCons (dC (.int 5)) dNil))))) (sSeq (sSet 4 (dTup (dCons (dCall c_law_clipped [] (dCons (dOp addD (dOp ixD (dVar 1) (dC (.int 0))) (dCall pullD [] (dCons (dVar 0) (dCons (dC (.int 3)) dNil)))) dNil)) (dCons (dCall c_law_clipped [] (dCons (dOp addD (dOp ixD (dVar 1) (dC (.int 1))) (dCall pullD [] (dCons (dVar 0) (dCons (dC (.int 3)) dNil)))) dNil)) dNil)))) (sSeq (sSet 5 (dTup (dCons (dCall c_law_clipped [] (dCons (dOp addD (dOp ixD (dVar 4) (dC (.int 0))) (dOp mulD (dOp ixD (dVar 2) (dC (.int 0))) (dVar 3))) dNil)) (dCons (dCall c_law_clipped [] (dCons (dOp addD (dOp ixD (dVar 4) (dC (.int 1))) (dOp mulD (dOp ixD (dVar 2) (dC (.int 1))) (dVar 3))) dNil)) dNil)))) (sRet (dIf (dTest (dOp neD (dVar 4) (dVar 5))) (dOp addD (dVar 4) (dVar 5)) (dTup (dCons (dC (.int 0)) (dCons (dC (.int 0)) (dCons (dC (.int 3)) (dCons (dC (.int 1)) dNil))))))))))))
def c_goes : DSp := fnD 14 2
  (sSeq (sAsg (dVar 0) (gT 4 (gsCons (gN 4) (gsCons (gN 5) (gsCons (gN 6) (gsCons (gN 7) gsNil)))))) (sSeq (sAsg (dTup (dCons (dTup (dCons (dC (.int 0)) (dCons (dC (.int 1)) dNil))) (dCons (dTup (dCons (dC (.int 1)) (dCons (dC (.int 1)) dNil))) dNil))) (gT 2 (gsCons (gN 8) (gsCons (gN 9) gsNil)))) (sSeq (sAsg2 2 3 (dC (.bl true))) (sSeq (sFor (iSeq (dTup (dCons (dTup (dCons (dVar 4) (dCons (dOp subD (dVar 6) (dVar 4)) (dCons (dOp ixD (dVar 1) (dC (.int 0))) dNil)))) (dCons (dTup (dCons (dVar 5) (dCons (dOp subD (dVar 7) (dVar 5)) (dCons (dOp ixD (dVar 1) (dC (.int 1))) dNil)))) dNil)))) (gT 3 (gsCons (gN 10) (gsCons (gN 11) (gsCons (gN 12) gsNil)))) (sSeq (sSet 13 (dCall c_span [] (dCons (dVar 10) (dCons (dVar 11) (dCons (dVar 12) dNil))))) (sSeq (sIf (dTest (dOp isNonD (dVar 13) (dC .non))) (sRet (dC (.bl false))) sNext) (sSeq (sIf (dOr (dTest (dCall c_below [] (dCons (dVar 8) (dCons (dOp ixD (dVar 13) (dC (.int 0))) dNil)))) (dAnd (dTest (dOp eqD (dVar 8) (dOp ixD (dVar 13) (dC (.int 0))))) (dNot (dTest (dOp ixD (dVar 13) (dC (.int 1))))))) (sPar 8 2 (dCons (dOp ixD (dVar 13) (dC (.int 0))) (dCons (dOp ixD (dVar 13) (dC (.int 1))) dNil))) sNext) (sIf (dOr (dTest (dCall c_below [] (dCons (dOp ixD (dVar 13) (dC (.int 2))) (dCons (dVar 9) dNil)))) (dAnd (dTest (dOp eqD (dVar 9) (dOp ixD (dVar 13) (dC (.int 2))))) (dNot (dTest (dOp ixD (dVar 13) (dC (.int 3))))))) (sPar 9 3 (dCons (dOp ixD (dVar 13) (dC (.int 2))) (dCons (dOp ixD (dVar 13) (dC (.int 3))) dNil))) sNext))))) (sRet (dOrV (dCall c_below [] (dCons (dVar 8) (dCons (dVar 9) dNil))) (dAndV (dOp eqD (dVar 8) (dVar 9)) (dAndV (dVar 2) (dVar 3)))))))))
def c_squares : DSp := fnD 9 1
  (sSeq (sPar 3 4 (dCons (dCall c_sign [] (dCons (dOp subD (dOp ixD (dVar 0) (dC (.int 2))) (dOp ixD (dVar 0) (dC (.int 0)))) dNil)) (dCons (dCall c_sign [] (dCons (dOp subD (dOp ixD (dVar 0) (dC (.int 3))) (dOp ixD (dVar 0) (dC (.int 1)))) dNil)) dNil))) (sSeq (sSet 1 (dSl (dVar 0) dNo (dPart (dC (.int 2))))) (sSeq (sOwn 2 (dCons (dVar 1) dNil)) (sSeq (sWhile (dTest (dOp neD (dVar 1) (dSl (dVar 0) (dPart (dC (.int 2))) dNo))) (sSeq (sAsg (dVar 1) (gT 2 (gsCons (gN 6) (gsCons (gN 7) gsNil)))) (sSeq (sSet 5 (dLst (dCons (dTup (dCons (dOp addD (dVar 6) (dVar 3)) (dCons (dVar 7) dNil))) (dCons (dTup (dCons (dVar 6) (dCons (dOp addD (dVar 7) (dVar 4)) dNil))) (dCons (dTup (dCons (dOp addD (dVar 6) (dVar 3)) (dCons (dOp addD (dVar 7) (dVar 4)) dNil))) dNil))))) (sSeq (sSet 1 (dOp ixD (dLc (iSeq (dVar 5)) (gN 8) (dAnd (dTest (dOp neD (dVar 8) (dVar 1))) (dTest (dCall c_goes [] (dCons (dVar 0) (dCons (dVar 8) dNil))))) (dVar 8) [8]) (dC (.int 0)))) (sAppend 2 (dVar 1)))))) (sRetOwn 2)))))
def c_law_flip : DSp := fnD 1 1
  (sRet (dTup (dCons (dOp ixD (dVar 0) (dC (.int 1))) (dCons (dOp ixD (dVar 0) (dC (.int 0))) (dCons (dOp ixD (dVar 0) (dC (.int 3))) (dCons (dOp ixD (dVar 0) (dC (.int 2))) dNil))))))
def c_law_shift : DSp := fnD 7 2
  (sSeq (sSet 2 (dB sumLD (dCons (dLc (iSeq (dVar 1)) (gN 6) dYes (dB listD (dCons (dVar 6) dNil)) [6]) (dCons (dLst (dCons (dC (.int 0)) dNil)) dNil)))) (sSeq (sAsg (dTup (dCons (dB (mm1D min) (dCons (dVar 2) dNil)) (dCons (dB (mm1D max) (dCons (dVar 2) dNil)) dNil))) (gT 2 (gsCons (gN 3) (gsCons (gN 4) gsNil)))) (sRet (dLc (iRng1D (dCons (dC (.int 2)) dNil)) (gN 5) dYes (dOp subD (dOp subD (dCall pullD [] (dCons (dVar 0) (dCons (dOp addD (dOp subD (dC (.int 81)) (dVar 4)) (dVar 3)) dNil))) (dC (.int 40))) (dVar 3)) [5]))))
def c_law_moved : DSp := fnD 2 2
  (sRet (dTup (dCons (dOp addD (dOp ixD (dVar 0) (dC (.int 0))) (dOp ixD (dVar 1) (dC (.int 0)))) (dCons (dOp addD (dOp ixD (dVar 0) (dC (.int 1))) (dOp ixD (dVar 1) (dC (.int 1)))) (dCons (dOp addD (dOp ixD (dVar 0) (dC (.int 2))) (dOp ixD (dVar 1) (dC (.int 0)))) (dCons (dOp addD (dOp ixD (dVar 0) (dC (.int 3))) (dOp ixD (dVar 1) (dC (.int 1)))) dNil))))))
def c_law_moved_place : DSp := fnD 7 2
  (sSeq (sIf (dOr (dTest (dOp isNonD (dVar 0) (dC .non))) (dTest (dOp eqD (dOp ixD (dVar 0) (dC (.int 0))) (dC (.str "along"))))) (sRet (dIf (dTest (dOp isNonD (dVar 0) (dC .non))) (dVar 0) (dOp addD (dTup (dCons (dC (.str "along")) dNil)) (dB tupleD (dCons (dLc (iSeq (dSl (dVar 0) (dPart (dC (.int 1))) dNo)) (gN 6) dYes (dTup (dCons (dOp addD (dOp ixD (dVar 6) (dC (.int 0))) (dOp ixD (dVar 1) (dC (.int 0)))) (dCons (dOp addD (dOp ixD (dVar 6) (dC (.int 1))) (dOp ixD (dVar 1) (dC (.int 1)))) dNil))) [6]) dNil))))) sNext) (sSeq (sAsg (dOp ixD (dVar 0) (dC (.int 1))) (gT 2 (gsCons (gT 2 (gsCons (gN 2) (gsCons (gN 3) gsNil))) (gsCons (gT 2 (gsCons (gN 4) (gsCons (gN 5) gsNil))) gsNil)))) (sRet (dTup (dCons (dC (.str "at")) (dCons (dTup (dCons (dTup (dCons (dOp addD (dVar 2) (dOp mulD (dOp ixD (dVar 1) (dC (.int 0))) (dVar 3))) (dCons (dVar 3) dNil))) (dCons (dTup (dCons (dOp addD (dVar 4) (dOp mulD (dOp ixD (dVar 1) (dC (.int 1))) (dVar 5))) (dCons (dVar 5) dNil))) dNil))) dNil))))))
def c_squaresO : DSp := fnO 9 1
  (sSeq (sPar 3 4 (dCons (dCall c_sign [] (dCons (dOp subD (dOp ixD (dVar 0) (dC (.int 2))) (dOp ixD (dVar 0) (dC (.int 0)))) dNil)) (dCons (dCall c_sign [] (dCons (dOp subD (dOp ixD (dVar 0) (dC (.int 3))) (dOp ixD (dVar 0) (dC (.int 1)))) dNil)) dNil))) (sSeq (sSet 1 (dSl (dVar 0) dNo (dPart (dC (.int 2))))) (sSeq (sOwn 2 (dCons (dVar 1) dNil)) (sSeq (sWhile (dTest (dOp neD (dVar 1) (dSl (dVar 0) (dPart (dC (.int 2))) dNo))) (sSeq (sAsg (dVar 1) (gT 2 (gsCons (gN 6) (gsCons (gN 7) gsNil)))) (sSeq (sSet 5 (dLst (dCons (dTup (dCons (dOp addD (dVar 6) (dVar 3)) (dCons (dVar 7) dNil))) (dCons (dTup (dCons (dVar 6) (dCons (dOp addD (dVar 7) (dVar 4)) dNil))) (dCons (dTup (dCons (dOp addD (dVar 6) (dVar 3)) (dCons (dOp addD (dVar 7) (dVar 4)) dNil))) dNil))))) (sSeq (sSet 1 (dOp ixD (dLc (iSeq (dVar 5)) (gN 8) (dAnd (dTest (dOp neD (dVar 8) (dVar 1))) (dTest (dCall c_goes [] (dCons (dVar 0) (dCons (dVar 8) dNil))))) (dVar 8) [8]) (dC (.int 0)))) (sAppend 2 (dVar 1)))))) (sRetOwn 2)))))
def c_law_in_order : DSp := fnD 6 2
  (sSeq (sIf (dOr (dNot (dTest (dIsi "list" (dVar 1)))) (dOr (dTest (dOp eqD (dVar 1) (dLst dNil))) (dOr (dTest (dOp neD (dOp ixD (dVar 1) (dC (.int 0))) (dSl (dVar 0) dNo (dPart (dC (.int 2)))))) (dTest (dOp neD (dOp ixD (dVar 1) (dUn negD (dC (.int 1)))) (dSl (dVar 0) (dPart (dC (.int 2))) dNo)))))) (sRet (dC (.bl false))) sNext) (sSeq (sFor (iRng2D (dCons (dC (.int 1)) (dCons (dB lenD (dCons (dVar 1) dNil)) dNil))) (gN 2) (sSeq (sFor (iRng1D (dCons (dC (.int 2)) dNil)) (gN 3) (sSeq (sSet 4 (dOp subD (dOp ixD (dOp ixD (dVar 1) (dVar 2)) (dVar 3)) (dOp ixD (dOp ixD (dVar 1) (dOp subD (dVar 2) (dC (.int 1)))) (dVar 3)))) (sSeq (sSet 5 (dOp subD (dOp ixD (dVar 0) (dOp addD (dC (.int 2)) (dVar 3))) (dOp ixD (dVar 0) (dVar 3)))) (sIf (dOr (dTest (dOp gtA (dB absD (dCons (dVar 4) dNil)) (dC (.int 1)))) (dOr (dTest (dOp ltA (dOp mulD (dVar 4) (dVar 5)) (dC (.int 0)))) (dAnd (dTest (dOp eqD (dVar 5) (dC (.int 0)))) (dTest (dOp neD (dVar 4) (dC (.int 0))))))) (sRet (dC (.bl false))) sNext)))) (sIf (dTest (dOp eqD (dOp ixD (dVar 1) (dVar 2)) (dOp ixD (dVar 1) (dOp subD (dVar 2) (dC (.int 1)))))) (sRet (dC (.bl false))) sNext))) (sRet (dC (.bl true)))))
def c_causes : DSp := fnD 8 1
  (sSeq (sSet 1 (dB sortedC (dCons (dVar 0) dNil))) (sSeq (sOwn 2 dNil) (sSeq (sFor (iEnumD (dCons (dVar 1) dNil)) (gT 2 (gsCons (gN 3) (gsCons (gN 4) gsNil))) (sSeq (sSet 5 (dOp ixKD (dVar 0) (dVar 4))) (sSeq (sAppend 2 (dTup (dCons (dSl (dVar 5) dNo (dPart (dC (.int 2)))) (dCons (dTup (dCons (dC (.str "end")) (dCons (dVar 4) (dCons (dC (.int 0)) dNil)))) dNil)))) (sSeq (sAppend 2 (dTup (dCons (dSl (dVar 5) (dPart (dC (.int 2))) dNo) (dCons (dTup (dCons (dC (.str "end")) (dCons (dVar 4) (dCons (dC (.int 1)) dNil)))) dNil)))) (sFor (iSeq (dSl (dVar 1) (dPart (dOp addD (dVar 3) (dC (.int 1)))) dNo)) (gN 6) (sSeq (sSet 7 (dCall c_meet [] (dCons (dVar 5) (dCons (dOp ixKD (dVar 0) (dVar 6)) dNil)))) (sIf (dAnd (dTest (dOp notNonD (dVar 7) (dC .non))) (dTest (dOp eqD (dOp ixD (dVar 7) (dC (.int 0))) (dC (.str "at"))))) (sAppend 2 (dTup (dCons (dCall c_square_of [] (dCons (dOp ixD (dVar 7) (dC (.int 1))) dNil)) (dCons (dTup (dCons (dC (.str "cross")) (dCons (dVar 4) (dCons (dVar 6) dNil)))) dNil)))) sNext))))))) (sFrz 2 (sRet (dB sortedC (dCons (dVar 2) dNil)))))))
def c_why : DSp := fnD 4 2
  (sRet (dLc (iSeq (dCall c_causes [] (dCons (dVar 0) dNil))) (gT 2 (gsCons (gN 2) (gsCons (gN 3) gsNil))) (dTest (dOp eqD (dVar 2) (dVar 1))) (dVar 3) [2, 3]))
def c_met_in : DSp := fnD 4 3
  (sSeq (sSet 3 (dCall c_meet [] (dCons (dVar 0) (dCons (dVar 1) dNil)))) (sRet (dAndV (dOp notNonD (dVar 3) (dC .non)) (dAndV (dOp eqD (dOp ixD (dVar 3) (dC (.int 0))) (dC (.str "at"))) (dOp eqD (dCall c_square_of [] (dCons (dOp ixD (dVar 3) (dC (.int 1))) dNil)) (dVar 2))))))
def c_goers : DSp := fnD 3 2
  (sRet (dB tupleD (dCons (dLc (iSeq (dB sortedC (dCons (dVar 0) dNil))) (gN 2) (dTest (dCall c_goes [] (dCons (dOp ixKD (dVar 0) (dVar 2)) (dCons (dVar 1) dNil)))) (dVar 2) [2]) dNil)))
def c_heat_paper : DSp := fnD 3 2
  (sSeq (sSet 2 (dCall c_why [] (dCons (dVar 0) (dCons (dVar 1) dNil)))) (sRet (dIf (dTru (dVar 2)) (dOp ixD (dVar 2) (dC (.int 0))) (dTup (dCons (dC (.str "cold")) (dCons (dCall c_goers [] (dCons (dVar 0) (dCons (dVar 1) dNil))) dNil))))))
def c_cold_right : DSp := fnD 6 3
  (sSeq (sIf (dTest (dOp neD (dVar 2) (dCall c_goers [] (dCons (dVar 0) (dCons (dVar 1) dNil))))) (sRet (dC (.bl false))) sNext) (sSeq (sIf (dTest (dB anyD (dCons (dLc (iSeq (dVar 2)) (gN 3) dYes (dOp inTD (dVar 1) (dTup (dCons (dSl (dOp ixKD (dVar 0) (dVar 3)) dNo (dPart (dC (.int 2)))) (dCons (dSl (dOp ixKD (dVar 0) (dVar 3)) (dPart (dC (.int 2))) dNo) dNil)))) [3]) dNil))) (sRet (dC (.bl false))) sNext) (sRet (dUn notD (dB anyD (dCons (dLc2 (iSeq (dVar 2)) (gN 4) dYes (iSeq (dVar 2)) (gN 5) (dTest (dOp ltA (dVar 4) (dVar 5))) (dCall c_met_in [] (dCons (dOp ixKD (dVar 0) (dVar 4)) (dCons (dOp ixKD (dVar 0) (dVar 5)) (dCons (dVar 1) dNil)))) [4, 5] [5]) dNil))))))
def c_judge_heat : DSp := fnD 3 3
  (sSeq (sIf (dTest (dOp eqD (dOp ixD (dVar 2) (dC (.int 0))) (dC (.str "cold")))) (sRet (dCall c_cold_right [] (dCons (dVar 0) (dCons (dVar 1) (dCons (dOp ixD (dVar 2) (dC (.int 1))) dNil))))) sNext) (sSeq (sIf (dTest (dOp notInKD (dOp ixD (dVar 2) (dC (.int 1))) (dVar 0))) (sRet (dC (.bl false))) sNext) (sSeq (sIf (dTest (dOp eqD (dOp ixD (dVar 2) (dC (.int 0))) (dC (.str "end")))) (sRet (dOp eqD (dVar 1) (dOp ixD (dTup (dCons (dSl (dOp ixKD (dVar 0) (dOp ixD (dVar 2) (dC (.int 1)))) dNo (dPart (dC (.int 2)))) (dCons (dSl (dOp ixKD (dVar 0) (dOp ixD (dVar 2) (dC (.int 1)))) (dPart (dC (.int 2))) dNo) dNil))) (dOp ixD (dVar 2) (dC (.int 2)))))) sNext) (sRet (dAndV (dOp inKD (dOp ixD (dVar 2) (dC (.int 2))) (dVar 0)) (dAndV (dOp ltA (dOp ixD (dVar 2) (dC (.int 1))) (dOp ixD (dVar 2) (dC (.int 2)))) (dCall c_met_in [] (dCons (dOp ixKD (dVar 0) (dOp ixD (dVar 2) (dC (.int 1)))) (dCons (dOp ixKD (dVar 0) (dOp ixD (dVar 2) (dC (.int 2)))) (dCons (dVar 1) dNil))))))))))
def c_law_postsO : DSp := fnO 11 2
  (sSeq (sPar 4 5 (dCons (dOp addD (dC (.int 8)) (dCall pullD [] (dCons (dVar 0) (dCons (dC (.int 25)) dNil)))) (dCons (dOp subD (dC (.int 1)) (dOp mulD (dC (.int 2)) (dCall pullD [] (dCons (dVar 0) (dCons (dC (.int 2)) dNil))))) dNil))) (sSeq (sPar 6 7 (dCons (dOp subD (dCall pullD [] (dCons (dVar 0) (dCons (dOp subD (dC (.int 81)) (dVar 4)) dNil))) (dC (.int 40))) (dCons (dOp subD (dCall pullD [] (dCons (dVar 0) (dCons (dC (.int 65)) dNil))) (dC (.int 32))) dNil))) (sSeq (sOwn 2 (dCons (dTup (dCons (dVar 6) (dCons (dVar 7) (dCons (dOp addD (dVar 6) (dVar 4)) (dCons (dOp addD (dVar 7) (dVar 5)) dNil))))) dNil)) (sSeq (sFor (iRng1D (dCons (dOp subD (dVar 1) (dC (.int 1))) dNil)) (gN 3) (sSeq (sPar 9 10 (dCons (dOp addD (dOp addD (dVar 6) (dC (.int 1))) (dCall pullD [] (dCons (dVar 0) (dCons (dOp subD (dVar 4) (dC (.int 1))) dNil)))) (dCons (dCall pullD [] (dCons (dVar 0) (dCons (dC (.int 2)) dNil))) dNil))) (sSeq (sSet 8 (dOp addD (dVar 7) (dOp mulD (dVar 5) (dVar 10)))) (sAppend 2 (dTup (dCons (dVar 9) (dCons (dVar 8) (dCons (dVar 9) (dCons (dOp addD (dVar 8) (dOp ixD (dLst (dCons (dUn negD (dC (.int 5))) (dCons (dC (.int 5)) dNil))) (dCall pullD [] (dCons (dVar 0) (dCons (dC (.int 2)) dNil))))) dNil))))))))) (sRetOwn 2)))))
def c_law_strokes : DSp := fnD 5 2
  (sSeq (sPar 3 4 (dCons (dCall c_law_base [] (dCons (dVar 0) dNil)) (dCons (dCall c_law_of [] (dCons (dVar 0) (dCons (dLst (dCons (dC (.int 2)) (dCons (dC (.int 4)) (dCons (dC (.int 7)) (dCons (dC (.int 7)) (dCons (dC (.int 12)) (dCons (dC (.int 40)) dNil))))))) dNil))) dNil))) (sSeq (sOwn 2 dNil) (sSeq (sIf (dAnd (dTest (dOp gtA (dVar 1) (dC (.int 1)))) (dTest (dOp eqD (dCall pullD [] (dCons (dVar 0) (dCons (dC (.int 4)) dNil))) (dC (.int 0))))) (sSeq (sSetO 2 (dCall c_law_postsO [] (dCons (dVar 0) (dCons (dOp addD (dC (.int 2)) (dCall pullD [] (dCons (dVar 0) (dCons (dOp subD (dVar 1) (dC (.int 1))) dNil)))) dNil)))) (sSet 3 (dBor 2 (dSl (dOp ixD (dVar 2) (dC (.int 0))) dNo (dPart (dC (.int 2))))))) sNext) (sSeq (sWhile (dBorT 2 (dTest (dOp ltA (dB lenD (dCons (dVar 2) dNil)) (dVar 1)))) (sAppend 2 (dBor 2 (dCall c_law_beside [] (dCons (dVar 0) (dCons (dVar 3) (dCons (dVar 4) (dCons (dVar 2) dNil)))))))) (sRetOwn 2)))))
def c_law_names : DSp := fnD 3 1
  (sSeq (sSet 1 (dLst (dCons (dC (.str "b")) (dCons (dC (.str "a")) (dCons (dC (.str "ab")) (dCons (dC (.str "z")) (dCons (dC (.str "ba")) (dCons (dC (.str "aaaaaa")) (dCons (dC (.str "zz")) (dCons (dC (.str "m")) (dCons (dC (.str "abc")) (dCons (dC (.str "q")) (dCons (dC (.str "bb")) (dCons (dC (.str "c")) (dCons (dC (.str "mmm")) (dCons (dC (.str "e")) (dCons (dC (.str "zzzzzz")) (dCons (dC (.str "g")) dNil)))))))))))))))))) (sSeq (sSet 2 (dCall pullD [] (dCons (dVar 0) (dCons (dC (.int 16)) dNil)))) (sRet (dOp addD (dSl (dVar 1) (dPart (dVar 2)) dNo) (dSl (dVar 1) dNo (dPart (dVar 2)))))))
def c_law_causes : DSp := fnD 9 1
  (sSeq (sSet 1 (dB sortedC (dCons (dVar 0) dNil))) (sSeq (sOwn 2 dNil) (sSeq (sFor (iRng1D (dCons (dB lenD (dCons (dVar 1) dNil)) dNil)) (gN 3) (sSeq (sSet 4 (dOp ixKD (dVar 0) (dOp ixD (dVar 1) (dVar 3)))) (sSeq (sAppend 2 (dTup (dCons (dSl (dVar 4) dNo (dPart (dC (.int 2)))) (dCons (dTup (dCons (dC (.str "end")) (dCons (dOp ixD (dVar 1) (dVar 3)) (dCons (dC (.int 0)) dNil)))) dNil)))) (sSeq (sAppend 2 (dTup (dCons (dSl (dVar 4) (dPart (dC (.int 2))) dNo) (dCons (dTup (dCons (dC (.str "end")) (dCons (dOp ixD (dVar 1) (dVar 3)) (dCons (dC (.int 1)) dNil)))) dNil)))) (sFor (iSeq (dSl (dVar 1) dNo (dPart (dVar 3)))) (gN 5) (sSeq (sSet 6 (dCall c_law_meet [] (dCons (dOp ixKD (dVar 0) (dVar 5)) (dCons (dVar 4) dNil)))) (sIf (dAnd (dTest (dOp notNonD (dVar 6) (dC .non))) (dTest (dOp eqD (dOp ixD (dVar 6) (dC (.int 0))) (dC (.str "at"))))) (sSeq (sAsg (dOp ixD (dVar 6) (dC (.int 1))) (gT 2 (gsCons (gN 7) (gsCons (gN 8) gsNil)))) (sAppend 2 (dTup (dCons (dTup (dCons (dCall c_nearest [] (dCons (dVar 7) dNil)) (dCons (dCall c_nearest [] (dCons (dVar 8) dNil)) dNil))) (dCons (dTup (dCons (dC (.str "cross")) (dCons (dVar 5) (dCons (dOp ixD (dVar 1) (dVar 3)) dNil)))) dNil))))) sNext))))))) (sFrz 2 (sRet (dB sortedC (dCons (dVar 2) dNil)))))))
def c_law_hot : DSp := fnD 4 1
  (sSeq (sSetO 1 dD0) (sSeq (sFor (iSeq (dCall c_law_causes [] (dCons (dVar 0) dNil))) (gT 2 (gsCons (gN 2) (gsCons (gN 3) gsNil))) (sPutD 1 (dVar 2) (dC (.bl true)))) (sFrz 1 (sRet (dB sortedC (dCons (dVar 1) dNil))))))
def c_law_center : DSp := fnD 3 1
  (sSeq (sSet 1 (dCall c_law_base [] (dCons (dVar 0) dNil))) (sRet (dLc (iSeq (dVar 1)) (gN 2) dYes (dOp subD (dOp addD (dB max2A (dCons (dUn negD (dC (.int 28))) (dCons (dB min2A (dCons (dC (.int 28)) (dCons (dVar 2) dNil))) dNil))) (dCall pullD [] (dCons (dVar 0) (dCons (dC (.int 3)) dNil)))) (dC (.int 1))) [2])))
def c_law_ring : DSp := fnD 11 2
  (sSeq (sPar 5 6 (dCons (dOp subD (dOp addD (dOp ixD (dVar 1) (dC (.int 0))) (dCall pullD [] (dCons (dVar 0) (dCons (dC (.int 3)) dNil)))) (dC (.int 1))) (dCons (dOp subD (dOp addD (dOp ixD (dVar 1) (dC (.int 1))) (dCall pullD [] (dCons (dVar 0) (dCons (dC (.int 3)) dNil)))) (dC (.int 1))) dNil))) (sSeq (sPar 7 8 (dCons (dOp addD (dC (.int 1)) (dCall pullD [] (dCons (dVar 0) (dCons (dC (.int 9)) dNil)))) (dCons (dOp addD (dC (.int 1)) (dCall pullD [] (dCons (dVar 0) (dCons (dC (.int 9)) dNil)))) dNil))) (sSeq (sOwn 2 (dCons (dTup (dCons (dOp subD (dVar 5) (dVar 7)) (dCons (dOp subD (dVar 6) (dVar 8)) dNil))) (dCons (dTup (dCons (dOp addD (dVar 5) (dVar 7)) (dCons (dOp subD (dVar 6) (dVar 8)) dNil))) (dCons (dTup (dCons (dOp addD (dVar 5) (dVar 7)) (dCons (dOp addD (dVar 6) (dVar 8)) dNil))) (dCons (dTup (dCons (dOp subD (dVar 5) (dVar 7)) (dCons (dOp addD (dVar 6) (dVar 8)) dNil))) dNil))))) (sSeq (sSetO 3 (dLc (iRng1D (dCons (dOp addD (dC (.int 3)) (dCall pullD [] (dCons (dVar 0) (dCons (dC (.int 2)) dNil)))) dNil)) (gN 9) dYes (dCall c_law_spot [] (dCons (dVar 0) (dCons (dVar 1) (dCons (dC (.int 9)) dNil)))) [9])) (sSeq (sIf (dBorT 3 (dAnd (dTest (dOp eqD (dCall pullD [] (dCons (dVar 0) (dCons (dC (.int 2)) dNil))) (dC (.int 0)))) (dTest (dOp neD (dOp ixD (dB sortedC (dCons (dVar 3) dNil)) (dC (.int 0))) (dOp ixD (dB sortedC (dCons (dVar 3) dNil)) (dUn negD (dC (.int 1)))))))) (sMove 2 3) sNext) (sSeq (sIf (dTest (dOp eqD (dCall pullD [] (dCons (dVar 0) (dCons (dC (.int 2)) dNil))) (dC (.int 0)))) (sRev 2) sNext) (sSeq (sFrz 2 (sSet 4 (dLc (iRng1D (dCons (dB lenD (dCons (dVar 2) dNil)) dNil)) (gN 9) dYes (dOp addD (dOp ixD (dVar 2) (dOp subD (dVar 9) (dC (.int 1)))) (dOp ixD (dVar 2) (dVar 9))) [9]))) (sRet (dLc (iSeq (dVar 4)) (gN 10) (dTest (dOp neD (dSl (dVar 10) dNo (dPart (dC (.int 2)))) (dSl (dVar 10) (dPart (dC (.int 2))) dNo))) (dVar 10) [10])))))))))
def c_law_rings : DSp := fnD 5 2
  (sSeq (sSet 2 (dCall c_law_center [] (dCons (dVar 0) dNil))) (sSeq (sSet 3 (dLst dNil)) (sSeq (sFor (iRng1D (dCons (dVar 1) dNil)) (gN 4) (sSet 3 (dOp addD (dVar 3) (dCall c_law_ring [] (dCons (dVar 0) (dCons (dVar 2) dNil)))))) (sRet (dVar 3)))))
def c_law_any_heap : DSp := fnD 3 2
  (sSeq (sSet 2 (dCall c_law_strokes [] (dCons (dVar 0) (dCons (dCall pullD [] (dCons (dVar 0) (dCons (dOp addD (dVar 1) (dC (.int 1))) dNil))) dNil)))) (sSeq (sIf (dTest (dOp eqD (dCall pullD [] (dCons (dVar 0) (dCons (dC (.int 2)) dNil))) (dC (.int 0)))) (sSet 2 (dOp addD (dCall c_law_rings [] (dCons (dVar 0) (dCons (dOp addD (dC (.int 1)) (dCall pullD [] (dCons (dVar 0) (dCons (dC (.int 2)) dNil)))) dNil))) (dSl (dVar 2) dNo (dPart (dC (.int 2)))))) sNext) (sRet (dB dictC (dCons (dZipL (dCons (dCall c_law_names [] (dCons (dVar 0) dNil)) (dCons (dVar 2) dNil))) dNil)))))
def c_law_paper_right : DSp := fnD 5 3
  (sSeq (sIf (dTest (dOp eqD (dOp ixD (dVar 2) (dC (.int 0))) (dC (.str "cold")))) (sSeq (sSet 3 (dB tupleD (dCons (dLc (iSeq (dB sortedC (dCons (dVar 0) dNil))) (gN 4) (dTest (dCall c_law_goes [] (dCons (dOp ixKD (dVar 0) (dVar 4)) (dCons (dVar 1) dNil)))) (dVar 4) [4]) dNil))) (sRet (dAndV (dOp eqD (dOp ixD (dVar 2) (dC (.int 1))) (dVar 3)) (dOp notInD (dVar 1) (dCall c_law_hot [] (dCons (dVar 0) dNil)))))) sNext) (sRet (dOp inD (dTup (dCons (dVar 1) (dCons (dVar 2) dNil))) (dCall c_law_causes [] (dCons (dVar 0) dNil)))))
def c_law_good_form : DSp := fnD 1 1
  (sSeq (sIf (dOr (dNot (dTest (dIsi "tuple" (dVar 0)))) (dTest (dOp eqD (dVar 0) (dTup dNil)))) (sRet (dC (.bl false))) sNext) (sSeq (sIf (dTest (dOp eqD (dOp ixD (dVar 0) (dC (.int 0))) (dC (.str "cold")))) (sRet (dAndV (dOp eqD (dB lenD (dCons (dVar 0) dNil)) (dC (.int 2))) (dIsi "tuple" (dOp ixD (dVar 0) (dC (.int 1)))))) sNext) (sRet (dAndV (dOp inTD (dOp ixD (dVar 0) (dC (.int 0))) (dTup (dCons (dC (.str "end")) (dCons (dC (.str "cross")) dNil)))) (dOp eqD (dB lenD (dCons (dVar 0) dNil)) (dC (.int 3)))))))
def c_law_spot_near : DSp := fnD 4 2
  (sSeq (sSet 2 (dOp addD (dCall c_law_hot [] (dCons (dVar 1) dNil)) (dLst (dCons (dTup (dCons (dC (.int 0)) (dCons (dC (.int 0)) dNil))) dNil)))) (sSeq (sSet 3 (dCall c_law_of [] (dCons (dVar 0) (dCons (dVar 2) dNil)))) (sSeq (sIf (dTest (dOp eqD (dCall pullD [] (dCons (dVar 0) (dCons (dC (.int 2)) dNil))) (dC (.int 0)))) (sSet 3 (dTup (dCons (dCall c_law_clipped [] (dCons (dOp subD (dOp addD (dOp ixD (dVar 3) (dC (.int 0))) (dCall pullD [] (dCons (dVar 0) (dCons (dC (.int 5)) dNil)))) (dC (.int 2))) dNil)) (dCons (dCall c_law_clipped [] (dCons (dOp subD (dOp addD (dOp ixD (dVar 3) (dC (.int 1))) (dCall pullD [] (dCons (dVar 0) (dCons (dC (.int 5)) dNil)))) (dC (.int 2))) dNil)) dNil)))) sNext) (sRet (dVar 3)))))
def c_law_any_paper : DSp := fnD 12 3
  (sSeq (sSet 3 (dOp addD (dB sortedC (dCons (dVar 1) dNil)) (dLst (dCons (dC (.str "other")) dNil)))) (sSeq (sPar 7 8 (dCons (dCall c_law_of [] (dCons (dVar 0) (dCons (dVar 3) dNil))) (dCons (dCall c_law_of [] (dCons (dVar 0) (dCons (dVar 3) dNil))) dNil))) (sSeq (sSet 4 (dLc (iSeq (dB sortedC (dCons (dVar 1) dNil))) (gN 9) (dTest (dCall c_law_goes [] (dCons (dOp ixKD (dVar 1) (dVar 9)) (dCons (dVar 2) dNil)))) (dVar 9) [9])) (sSeq (sSet 5 (dCall pullD [] (dCons (dVar 0) (dCons (dC (.int 6)) dNil)))) (sSeq (sIf (dTest (dOp eqD (dVar 5) (dC (.int 0)))) (sRet (dTup (dCons (dC (.str "end")) (dCons (dVar 7) (dCons (dCall pullD [] (dCons (dVar 0) (dCons (dC (.int 2)) dNil))) dNil))))) sNext) (sSeq (sIf (dTest (dOp eqD (dVar 5) (dC (.int 1)))) (sRet (dTup (dCons (dC (.str "cross")) (dCons (dVar 7) (dCons (dVar 8) dNil))))) sNext) (sSeq (sIf (dTest (dOp eqD (dVar 5) (dC (.int 2)))) (sRet (dTup (dCons (dC (.str "cold")) (dCons (dB tupleD (dCons (dOp addD (dSl (dVar 4) (dPart (dCall pullD [] (dCons (dVar 0) (dCons (dC (.int 2)) dNil)))) dNo) (dSl (dVar 3) dNo (dPart (dCall pullD [] (dCons (dVar 0) (dCons (dC (.int 2)) dNil)))))) dNil)) dNil)))) sNext) (sSeq (sIf (dTest (dOp eqD (dVar 5) (dC (.int 3)))) (sRet (dTup (dCons (dC (.str "cold")) (dCons (dB tupleD (dCons (dSl3 (dVar 4) dNo dNo (dPart (dOp subD (dC (.int 1)) (dOp mulD (dC (.int 2)) (dCall pullD [] (dCons (dVar 0) (dCons (dC (.int 2)) dNil))))))) dNil)) dNil)))) sNext) (sSeq (sSet 6 (dLc (iSeq (dCall c_law_causes [] (dCons (dVar 1) dNil))) (gT 2 (gsCons (gN 10) (gsCons (gN 11) gsNil))) (dOr (dTest (dOp eqD (dVar 10) (dVar 2))) (dTest (dOp eqD (dVar 5) (dC (.int 5))))) (dVar 11) [10, 11])) (sRet (dCall c_law_of [] (dCons (dVar 0) (dCons (dOp addD (dVar 6) (dLst (dCons (dTup (dCons (dC (.str "cold")) (dCons (dB tupleD (dCons (dVar 4) dNil)) dNil))) dNil))) dNil)))))))))))))
def c_lowestX : DSpX := fnX 3 2
  (xSeq (xIf (dTest (dOp eqD (dVar 1) (dC (.int 0)))) (xRaise0 "BadPart") (xL sNext)) (xSeq (xL (sSet 2 (dCall c_greatest [] (dCons (dVar 0) (dCons (dVar 1) dNil))))) (xSeq (xL (sIf (dTest (dOp ltA (dVar 1) (dC (.int 0)))) (sSet 2 (dUn negD (dVar 2))) sNext)) (xL (sRet (dTup (dCons (dOp fdivD (dVar 0) (dVar 2)) (dCons (dOp fdivD (dVar 1) (dVar 2)) dNil))))))))
def c_law_made : DSp := fnD 4 2
  (sSeq (sSet 2 (dC .non)) (sSeq (sTry (xSet 2 c_lowestX [] (dCons (dVar 0) (dCons (dVar 1) dNil))) [⟨"BadPart", [], 3, (fSet 2 (fTup (fCons (fFld "word") (fCons (fIs "DotError" true) (fCons (fIs "ValueError" true) (fCons (fIs "LookupError" false) fNil))))))⟩]) (sRet (dVar 2))))
def c_law_k01 : DSp := fnD 6 1
  (sSeq (sSet 1 (dCall bagD [] (dCons (dVar 0) dNil))) (sSeq (sFor (iRng1D (dCons (dC (.int 6)) dNil)) (gN 2) (sSeq (sPar 4 5 (dCons (dCall c_law_over [] (dCons (dVar 1) dNil)) (dCons (dOp mulD (dCall c_law_over [] (dCons (dVar 1) dNil)) (dB intC (dCons (dOp gtA (dCall pullD [] (dCons (dVar 1) (dCons (dC (.int 6)) dNil))) (dC (.int 0))) dNil))) dNil))) (sSeq (sSet 3 (dTup (dCons (dC (.str "BadPart")) (dCons (dC (.bl true)) (dCons (dC (.bl true)) (dCons (dC (.bl false)) dNil)))))) (sSeq (sIf (dTest (dOp neD (dVar 5) (dC (.int 0)))) (sSet 3 (dCall c_law_low [] (dCons (dVar 4) (dCons (dVar 5) dNil)))) sNext) (sIf (dOr (dNot (dTest (dCall (c_law_like 8) [] (dCons (dCall c_law_made [] (dCons (dVar 4) (dCons (dVar 5) dNil))) (dCons (dVar 3) dNil))))) (dNot (dTest (dCall (c_law_like 8) [] (dCons (dCall (noX c_lowestX) [.int 1] (dCons (dVar 4) dNil)) (dCons (dTup (dCons (dVar 4) (dCons (dC (.int 1)) dNil))) dNil)))))) (sRet (dC (.bl false))) sNext))))) (sRet (dC (.bl true)))))
def c_law_k02 : DSp := fnD 7 1
  (sSeq (sSet 1 (dCall bagD [] (dCons (dVar 0) dNil))) (sSeq (sFor (iRng1D (dCons (dC (.int 7)) dNil)) (gN 2) (sSeq (sSet 3 (dCall c_law_part [] (dCons (dVar 1) dNil))) (sSeq (sSet 4 (dCall c_law_of [] (dCons (dVar 1) (dCons (dLst (dCons (dCall c_law_part [] (dCons (dVar 1) dNil)) (dCons (dCall c_law_part [] (dCons (dVar 1) dNil)) (dCons (dVar 3) dNil)))) dNil)))) (sSeq (sSet 5 (dOp mulD (dOp ixD (dVar 3) (dC (.int 1))) (dOp ixD (dVar 4) (dC (.int 1))))) (sSeq (sSet 6 (dLst (dCons (dCall c_law_low [] (dCons (dOp addD (dOp mulD (dOp ixD (dVar 3) (dC (.int 0))) (dOp ixD (dVar 4) (dC (.int 1)))) (dOp mulD (dOp ixD (dVar 4) (dC (.int 0))) (dOp ixD (dVar 3) (dC (.int 1))))) (dCons (dVar 5) dNil))) (dCons (dCall c_law_low [] (dCons (dOp mulD (dOp ixD (dVar 3) (dC (.int 0))) (dOp ixD (dVar 4) (dC (.int 0)))) (dCons (dVar 5) dNil))) dNil)))) (sSeq (sSet 6 (dOp addD (dVar 6) (dLst (dCons (dCall c_law_low [] (dCons (dOp subD (dOp mulD (dOp ixD (dVar 3) (dC (.int 0))) (dOp ixD (dVar 4) (dC (.int 1)))) (dOp mulD (dOp ixD (dVar 4) (dC (.int 0))) (dOp ixD (dVar 3) (dC (.int 1))))) (dCons (dVar 5) dNil))) dNil)))) (sSeq (sIf (dNot (dTest (dCall (c_law_like 8) [] (dCons (dLst (dCons (dCall c_plus [] (dCons (dVar 3) (dCons (dVar 4) dNil))) (dCons (dCall c_times [] (dCons (dVar 3) (dCons (dVar 4) dNil))) (dCons (dCall c_less [] (dCons (dVar 3) (dCons (dVar 4) dNil))) dNil)))) (dCons (dVar 6) dNil))))) (sRet (dC (.bl false))) sNext) (sIf (dNot (dTest (dCall (c_law_like 8) [] (dCons (dLst (dCons (dCall c_below [] (dCons (dVar 3) (dCons (dVar 4) dNil))) (dCons (dCall c_below [] (dCons (dVar 4) (dCons (dVar 3) dNil))) dNil))) (dCons (dLst (dCons (dOp ltA (dOp ixD (dOp ixD (dVar 6) (dC (.int 2))) (dC (.int 0))) (dC (.int 0))) (dCons (dOp gtA (dOp ixD (dOp ixD (dVar 6) (dC (.int 2))) (dC (.int 0))) (dC (.int 0))) dNil))) dNil))))) (sRet (dC (.bl false))) sNext)))))))) (sRet (dC (.bl true)))))
def c_law_k03 : DSp := fnD 7 1
  (sSeq (sSet 1 (dCall bagD [] (dCons (dVar 0) dNil))) (sSeq (sFor (iRng1D (dCons (dC (.int 4)) dNil)) (gN 2) (sSeq (sOwn 3 dNil) (sSeq (sFor (iSeq (dLst (dCons (dCall c_law_about [] (dCons (dVar 1) dNil)) (dCons (dCall c_law_about [] (dCons (dVar 1) dNil)) dNil)))) (gN 4) (sSeq (sSet 6 (dCall c_nearest [] (dCons (dVar 4) dNil))) (sSeq (sIf (dOr (dNot (dTest (dIsi "int" (dVar 6)))) (dTest (dIsi "bool" (dVar 6)))) (sRet (dC (.bl false))) sNext) (sSeq (sIf (dNot (dTest (dChain leA ltA (dOp mulD (dOp subD (dOp mulD (dC (.int 2)) (dVar 6)) (dC (.int 1))) (dOp ixD (dVar 4) (dC (.int 1)))) (dOp mulD (dC (.int 2)) (dOp ixD (dVar 4) (dC (.int 0)))) (dOp mulD (dOp addD (dOp mulD (dC (.int 2)) (dVar 6)) (dC (.int 1))) (dOp ixD (dVar 4) (dC (.int 1))))))) (sRet (dC (.bl false))) sNext) (sAppend 3 (dTup (dCons (dVar 4) (dCons (dVar 6) dNil)))))))) (sSeq (sFrz 3 (sSet 5 (dCall c_square_of [] (dCons (dTup (dCons (dOp ixD (dOp ixD (dVar 3) (dC (.int 0))) (dC (.int 0))) (dCons (dOp ixD (dOp ixD (dVar 3) (dC (.int 1))) (dC (.int 0))) dNil))) dNil)))) (sFrz 3 (sIf (dNot (dTest (dCall (c_law_like 8) [] (dCons (dVar 5) (dCons (dTup (dCons (dOp ixD (dOp ixD (dVar 3) (dC (.int 0))) (dC (.int 1))) (dCons (dOp ixD (dOp ixD (dVar 3) (dC (.int 1))) (dC (.int 1))) dNil))) dNil))))) (sRet (dC (.bl false))) sNext)))))) (sRet (dAndV (dOp eqD (dCall c_nearest [] (dCons (dTup (dCons (dC (.int 1)) (dCons (dC (.int 2)) dNil))) dNil)) (dC (.int 1))) (dOp eqD (dCall c_nearest [] (dCons (dTup (dCons (dUn negD (dC (.int 1))) (dCons (dC (.int 2)) dNil))) dNil)) (dC (.int 0)))))))
def c_law_k04 : DSp := fnD 11 1
  (sSeq (sSet 1 (dCall bagD [] (dCons (dVar 0) dNil))) (sSeq (sFor (iRng1D (dCons (dC (.int 6)) dNil)) (gN 2) (sSeq (sSet 3 (dB tupleD (dCons (dLc (iRng1D (dCons (dC (.int 2)) dNil)) (gN 10) dYes (dCall c_law_of [] (dCons (dVar 1) (dCons (dLst (dCons (dUn negD (dC (.int 41))) (dCons (dUn negD (dC (.int 40))) (dCons (dC (.int 40)) (dCons (dC (.int 41)) (dCons (dOp subD (dCall pullD [] (dCons (dVar 1) (dCons (dC (.int 81)) dNil))) (dC (.int 40))) (dCons (dCall c_law_over [] (dCons (dVar 1) dNil)) dNil))))))) dNil))) [10]) dNil))) (sSeq (sIf (dNot (dTest (dCall (c_law_like 8) [] (dCons (dCall c_is_spot [] (dCons (dVar 3) dNil)) (dCons (dAndV (dOp leA (dUn negD (dC (.int 40))) (dB (mm1D min) (dCons (dVar 3) dNil))) (dOp leA (dB (mm1D max) (dCons (dVar 3) dNil)) (dC (.int 40)))) dNil))))) (sRet (dC (.bl false))) sNext) (sSeq (sPar 5 6 (dCons (dCall c_law_base [] (dCons (dVar 1) dNil)) (dCons (dCall c_law_of [] (dCons (dVar 1) (dCons (dLst (dCons (dC (.int 1)) (dCons (dC (.int 3)) (dCons (dC (.int 40)) dNil)))) dNil))) dNil))) (sSeq (sPar3 7 8 9 (dCons (dCall c_law_spot [] (dCons (dVar 1) (dCons (dVar 5) (dCons (dVar 6) dNil)))) (dCons (dCall c_law_spot [] (dCons (dVar 1) (dCons (dVar 5) (dCons (dVar 6) dNil)))) (dCons (dCall c_law_spot [] (dCons (dVar 1) (dCons (dVar 5) (dCons (dVar 6) dNil)))) dNil)))) (sSeq (sIf (dTest (dOp eqD (dCall pullD [] (dCons (dVar 1) (dCons (dC (.int 4)) dNil))) (dC (.int 0)))) (sSet 9 (dTup (dCons (dCall c_law_clipped [] (dCons (dOp subD (dOp mulD (dC (.int 2)) (dOp ixD (dVar 8) (dC (.int 0)))) (dOp ixD (dVar 7) (dC (.int 0)))) dNil)) (dCons (dCall c_law_clipped [] (dCons (dOp subD (dOp mulD (dC (.int 2)) (dOp ixD (dVar 8) (dC (.int 1)))) (dOp ixD (dVar 7) (dC (.int 1)))) dNil)) dNil)))) sNext) (sSeq (sSet 4 (dCall c_law_side [] (dCons (dVar 7) (dCons (dVar 8) (dCons (dVar 9) dNil))))) (sSeq (sIf (dNot (dTest (dCall (c_law_like 8) [] (dCons (dLst (dCons (dCall c_turning [] (dCons (dVar 7) (dCons (dVar 8) (dCons (dVar 9) dNil)))) (dCons (dCall c_turning [] (dCons (dVar 8) (dCons (dVar 9) (dCons (dVar 7) dNil)))) dNil))) (dCons (dLst (dCons (dVar 4) (dCons (dVar 4) dNil))) dNil))))) (sRet (dC (.bl false))) sNext) (sIf (dTest (dOp neD (dCall c_turning [] (dCons (dVar 7) (dCons (dVar 9) (dCons (dVar 8) dNil)))) (dOp subD (dC (.int 0)) (dVar 4)))) (sRet (dC (.bl false))) sNext))))))))) (sRet (dAndV (dOp eqD (dC (.int 40)) (dC (.int 40))) (dAndV (dOp isBD (dCall c_is_spot [] (dCons (dTup (dCons (dC (.int 40)) (dCons (dUn negD (dC (.int 40))) dNil))) dNil)) (dC (.bl true))) (dOp eqD (dCall c_turning [] (dCons (dTup (dCons (dC (.int 0)) (dCons (dC (.int 0)) dNil))) (dCons (dTup (dCons (dC (.int 1)) (dCons (dC (.int 0)) dNil))) (dCons (dTup (dCons (dC (.int 1)) (dCons (dC (.int 1)) dNil))) dNil)))) (dC (.int 1))))))))
def c_law_k06 : DSp := fnD 9 1
  (sSeq (sSet 1 (dCall bagD [] (dCons (dVar 0) dNil))) (sSeq (sFor (iRng1D (dCons (dC (.int 5)) dNil)) (gN 2) (sSeq (sPar 5 6 (dCons (dCall c_law_base [] (dCons (dVar 1) dNil)) (dCons (dCall c_law_of [] (dCons (dVar 1) (dCons (dLst (dCons (dC (.int 2)) (dCons (dC (.int 6)) (dCons (dC (.int 40)) dNil)))) dNil))) dNil))) (sSeq (sSet 3 (dCall c_law_of [] (dCons (dVar 1) (dCons (dLst (dCons (dCall c_law_stroke [] (dCons (dVar 1) (dCons (dVar 5) (dCons (dVar 6) dNil)))) (dCons (dCall c_law_slanted [] (dCons (dVar 1) dNil)) dNil))) dNil)))) (sFor (iRng1D (dCons (dC (.int 8)) dNil)) (gN 4) (sSeq (sSet 7 (dCall c_law_of [] (dCons (dVar 1) (dCons (dLst (dCons (dCall c_law_near_spot [] (dCons (dVar 1) (dCons (dVar 3) dNil))) (dCons (dSl (dVar 3) (dPart (dC (.int 2))) dNo) (dCons (dCall c_law_spot [] (dCons (dVar 1) (dCons (dVar 5) (dCons (dVar 6) dNil)))) dNil)))) dNil)))) (sSeq (sSet 8 (dCall c_law_goes [] (dCons (dVar 3) (dCons (dVar 7) dNil)))) (sSeq (sIf (dNot (dTest (dCall (c_law_like 8) [] (dCons (dCall c_goes [] (dCons (dVar 3) (dCons (dVar 7) dNil))) (dCons (dVar 8) dNil))))) (sRet (dC (.bl false))) sNext) (sIf (dNot (dTest (dCall (c_law_like 8) [] (dCons (dCall c_goes [] (dCons (dOp addD (dSl (dVar 3) (dPart (dC (.int 2))) dNo) (dSl (dVar 3) dNo (dPart (dC (.int 2))))) (dCons (dVar 7) dNil))) (dCons (dVar 8) dNil))))) (sRet (dC (.bl false))) sNext)))))))) (sRet (dAndV (dOp isBD (dCall c_goes [] (dCons (dTup (dCons (dC (.int 0)) (dCons (dC (.int 0)) (dCons (dC (.int 1)) (dCons (dC (.int 1)) dNil))))) (dCons (dTup (dCons (dC (.int 1)) (dCons (dC (.int 0)) dNil))) dNil))) (dC (.bl false))) (dOp isBD (dCall c_goes [] (dCons (dTup (dCons (dC (.int 1)) (dCons (dC (.int 0)) (dCons (dC (.int 0)) (dCons (dC (.int 1)) dNil))))) (dCons (dTup (dCons (dC (.int 1)) (dCons (dC (.int 1)) dNil))) dNil))) (dC (.bl true)))))))
def c_law_k07 : DSp := fnD 11 1
  (sSeq (sSet 1 (dCall bagD [] (dCons (dVar 0) dNil))) (sSeq (sFor (iRng1D (dCons (dC (.int 3)) dNil)) (gN 2) (sSeq (sSet 3 (dCall c_law_stroke [] (dCons (dVar 1) (dCons (dCall c_law_base [] (dCons (dVar 1) dNil)) (dCons (dCall c_law_of [] (dCons (dVar 1) (dCons (dLst (dCons (dC (.int 2)) (dCons (dC (.int 5)) (dCons (dC (.int 9)) (dCons (dC (.int 40)) dNil))))) dNil))) dNil))))) (sSeq (sSetO 4 (dCall c_squaresO [] (dCons (dVar 3) dNil))) (sSeq (sIf (dBorT 4 (dOr (dNot (dTest (dCall c_law_in_order [] (dCons (dVar 3) (dCons (dVar 4) dNil))))) (dNot (dTest (dB allD (dCons (dLc (iSeq (dVar 4)) (gN 9) dYes (dCall c_law_goes [] (dCons (dVar 3) (dCons (dVar 9) dNil))) [9]) dNil)))))) (sRet (dC (.bl false))) sNext) (sSeq (sSet 5 (dBorO 4 (dB dictC (dCons (dLc (iSeq (dVar 4)) (gN 9) dYes (dTup (dCons (dVar 9) (dCons (dC (.bl true)) dNil))) [9]) dNil)))) (sSeq (sLend 4 (sFor (iSeq (dVar 4)) (gT 2 (gsCons (gN 6) (gsCons (gN 7) gsNil))) (sSeq (sSet 8 (dLc (iRng1D (dCons (dC (.int 9)) dNil)) (gN 10) dYes (dTup (dCons (dOp subD (dOp addD (dVar 6) (dOp modD (dVar 10) (dC (.int 3)))) (dC (.int 1))) (dCons (dOp subD (dOp addD (dVar 7) (dOp fdivD (dVar 10) (dC (.int 3)))) (dC (.int 1))) dNil))) [10])) (sIf (dTest (dB anyD (dCons (dLc (iSeq (dVar 8)) (gN 9) dYes (dAndV (dOp notInKD (dVar 9) (dVar 5)) (dCall c_law_goes [] (dCons (dVar 3) (dCons (dVar 9) dNil)))) [9]) dNil))) (sRet (dC (.bl false))) sNext)))) (sSeq (sIf (dBorT 4 (dNot (dTest (dCall (c_law_like 8) [] (dCons (dCall c_squaresO [] (dCons (dOp addD (dSl (dVar 3) (dPart (dC (.int 2))) dNo) (dSl (dVar 3) dNo (dPart (dC (.int 2))))) dNil)) (dCons (dSl3 (dVar 4) dNo dNo (dPart (dUn negD (dC (.int 1))))) dNil)))))) (sRet (dC (.bl false))) sNext) (sSeq (sAppend 4 (dTup (dCons (dC (.int 0)) (dCons (dC (.int 0)) dNil)))) (sFrz 4 (sIf (dOr (dTest (dOp neD (dB lenD (dCons (dCall c_squaresO [] (dCons (dVar 3) dNil)) dNil)) (dOp subD (dB lenD (dCons (dVar 4) dNil)) (dC (.int 1))))) (dNot (dTest (dCall c_goes [] (dCons (dVar 3) (dCons (dOp ixD (dVar 4) (dC (.int 0))) dNil)))))) (sRet (dC (.bl false))) sNext)))))))))) (sRet (dC (.bl true)))))
def c_law_k08 : DSp := fnD 8 1
  (sSeq (sSet 1 (dCall bagD [] (dCons (dVar 0) dNil))) (sSeq (sFor (iRng1D (dCons (dC (.int 6)) dNil)) (gN 2) (sSeq (sPar 6 7 (dCons (dCall c_law_base [] (dCons (dVar 1) dNil)) (dCons (dCall c_law_of [] (dCons (dVar 1) (dCons (dLst (dCons (dC (.int 1)) (dCons (dC (.int 2)) (dCons (dC (.int 5)) (dCons (dC (.int 40)) dNil))))) dNil))) dNil))) (sSeq (sSet 3 (dCall c_law_stroke [] (dCons (dVar 1) (dCons (dVar 6) (dCons (dVar 7) dNil))))) (sSeq (sSet 4 (dCall c_law_beside [] (dCons (dVar 1) (dCons (dVar 6) (dCons (dVar 7) (dCons (dLst (dCons (dVar 3) dNil)) dNil)))))) (sSeq (sIf (dTest (dOp eqD (dCall pullD [] (dCons (dVar 1) (dCons (dC (.int 5)) dNil))) (dC (.int 0)))) (sSet 4 (dCall c_law_of [] (dCons (dVar 1) (dCons (dLst (dCons (dVar 3) (dCons (dOp addD (dSl (dVar 3) (dPart (dC (.int 2))) dNo) (dSl (dVar 3) dNo (dPart (dC (.int 2))))) dNil))) dNil)))) sNext) (sSeq (sSet 5 (dCall c_law_meet [] (dCons (dVar 3) (dCons (dVar 4) dNil)))) (sSeq (sIf (dNot (dTest (dCall (c_law_like 8) [] (dCons (dLst (dCons (dCall c_meet [] (dCons (dVar 3) (dCons (dVar 4) dNil))) (dCons (dCall c_meet [] (dCons (dVar 4) (dCons (dVar 3) dNil))) dNil))) (dCons (dLst (dCons (dVar 5) (dCons (dVar 5) dNil))) dNil))))) (sRet (dC (.bl false))) sNext) (sIf (dNot (dTest (dCall (c_law_like 8) [] (dCons (dCall c_meet [] (dCons (dOp addD (dSl (dVar 3) (dPart (dC (.int 2))) dNo) (dSl (dVar 3) dNo (dPart (dC (.int 2))))) (dCons (dVar 4) dNil))) (dCons (dVar 5) dNil))))) (sRet (dC (.bl false))) sNext)))))))) (sRet (dCall (c_law_like 8) [] (dCons (dCall c_meet [] (dCons (dTup (dCons (dC (.int 0)) (dCons (dC (.int 0)) (dCons (dC (.int 2)) (dCons (dC (.int 2)) dNil))))) (dCons (dTup (dCons (dC (.int 0)) (dCons (dC (.int 1)) (dCons (dC (.int 1)) (dCons (dC (.int 0)) dNil))))) dNil))) (dCons (dTup (dCons (dC (.str "at")) (dCons (dTup (dCons (dTup (dCons (dC (.int 1)) (dCons (dC (.int 2)) dNil))) (dCons (dTup (dCons (dC (.int 1)) (dCons (dC (.int 2)) dNil))) dNil))) dNil))) dNil))))))
def c_law_k09 : DSp := fnD 11 1
  (sSeq (sSet 1 (dCall bagD [] (dCons (dVar 0) dNil))) (sSeq (sFor (iRng1D (dCons (dC (.int 6)) dNil)) (gN 2) (sSeq (sPar 9 10 (dCons (dCall c_law_base [] (dCons (dVar 1) dNil)) (dCons (dCall c_law_of [] (dCons (dVar 1) (dCons (dLst (dCons (dC (.int 1)) (dCons (dC (.int 3)) (dCons (dC (.int 6)) (dCons (dC (.int 12)) dNil))))) dNil))) dNil))) (sSeq (sSet 3 (dCall c_law_stroke [] (dCons (dVar 1) (dCons (dVar 9) (dCons (dVar 10) dNil))))) (sSeq (sSet 4 (dCall c_law_beside [] (dCons (dVar 1) (dCons (dVar 9) (dCons (dVar 10) (dCons (dLst (dCons (dVar 3) dNil)) dNil)))))) (sSeq (sSet 5 (dCall c_meet [] (dCons (dVar 3) (dCons (dVar 4) dNil)))) (sSeq (sSet 6 (dLst (dCons (dCall c_squares [] (dCons (dVar 3) dNil)) (dCons (dCall c_squares [] (dCons (dVar 4) dNil)) dNil)))) (sSeq (sIf (dTest (dOp isNonD (dVar 5) (dC .non))) sCont sNext) (sSeq (sSet 7 (dIf (dTest (dOp eqD (dOp ixD (dVar 5) (dC (.int 0))) (dC (.str "at")))) (dLst (dCons (dCall c_square_of [] (dCons (dOp ixD (dVar 5) (dC (.int 1))) dNil)) dNil)) (dLst (dCons (dOp ixD (dVar 5) (dC (.int 1))) (dCons (dOp ixD (dVar 5) (dC (.int 2))) dNil))))) (sSeq (sFor (iSeq (dVar 7)) (gN 8) (sIf (dOr (dNot (dTest (dCall c_goes [] (dCons (dVar 3) (dCons (dVar 8) dNil))))) (dOr (dNot (dTest (dCall c_goes [] (dCons (dVar 4) (dCons (dVar 8) dNil))))) (dOr (dTest (dOp notInD (dVar 8) (dOp ixD (dVar 6) (dC (.int 0))))) (dTest (dOp notInD (dVar 8) (dOp ixD (dVar 6) (dC (.int 1)))))))) (sRet (dC (.bl false))) sNext)) (sIf (dNot (dTest (dB anyD (dCons (dLc (iSeq (dOp ixD (dVar 6) (dC (.int 1)))) (gN 8) dYes (dOp inD (dVar 8) (dOp ixD (dVar 6) (dC (.int 0)))) [8]) dNil)))) (sRet (dC (.bl false))) sNext)))))))))) (sRet (dC (.bl true)))))
def c_law_k10 : DSp := fnD 14 1
  (sSeq (sSet 1 (dCall bagD [] (dCons (dVar 0) dNil))) (sSeq (sFor (iRng1D (dCons (dC (.int 4)) dNil)) (gN 2) (sSeq (sPar 8 9 (dCons (dCall c_law_base [] (dCons (dVar 1) dNil)) (dCons (dCall c_law_of [] (dCons (dVar 1) (dCons (dLst (dCons (dC (.int 2)) (dCons (dC (.int 5)) (dCons (dC (.int 9)) dNil)))) dNil))) dNil))) (sSeq (sSet 3 (dCall c_law_stroke [] (dCons (dVar 1) (dCons (dVar 8) (dCons (dVar 9) dNil))))) (sSeq (sSet 4 (dCall c_law_beside [] (dCons (dVar 1) (dCons (dVar 8) (dCons (dVar 9) (dCons (dLst (dCons (dVar 3) dNil)) dNil)))))) (sSeq (sSet 5 (dCall c_law_shift [] (dCons (dVar 1) (dCons (dLst (dCons (dVar 3) (dCons (dVar 4) dNil))) dNil)))) (sSeq (sSet 6 (dLst (dCons (dCall c_law_moved [] (dCons (dVar 3) (dCons (dVar 5) dNil))) (dCons (dCall c_law_moved [] (dCons (dVar 4) (dCons (dVar 5) dNil))) dNil)))) (sSeq (sIf (dTest (dOp neD (dCall c_squares [] (dCons (dOp ixD (dVar 6) (dC (.int 0))) dNil)) (dLc (iSeq (dCall c_squares [] (dCons (dVar 3) dNil))) (gT 2 (gsCons (gN 12) (gsCons (gN 13) gsNil))) dYes (dTup (dCons (dOp addD (dVar 12) (dOp ixD (dVar 5) (dC (.int 0)))) (dCons (dOp addD (dVar 13) (dOp ixD (dVar 5) (dC (.int 1)))) dNil))) [12, 13]))) (sRet (dC (.bl false))) sNext) (sSeq (sIf (dNot (dTest (dCall (c_law_like 8) [] (dCons (dCall c_meet [] (dCons (dOp ixD (dVar 6) (dC (.int 0))) (dCons (dOp ixD (dVar 6) (dC (.int 1))) dNil))) (dCons (dCall c_law_moved_place [] (dCons (dCall c_meet [] (dCons (dVar 3) (dCons (dVar 4) dNil))) (dCons (dVar 5) dNil))) dNil))))) (sRet (dC (.bl false))) sNext) (sSeq (sIf (dTest (dOp neD (dCall c_squares [] (dCons (dCall c_law_flip [] (dCons (dVar 3) dNil)) dNil)) (dLc (iSeq (dCall c_squares [] (dCons (dVar 3) dNil))) (gT 2 (gsCons (gN 12) (gsCons (gN 13) gsNil))) dYes (dTup (dCons (dVar 13) (dCons (dVar 12) dNil))) [12, 13]))) (sRet (dC (.bl false))) sNext) (sSeq (sPar 10 11 (dCons (dCall c_meet [] (dCons (dCall c_law_flip [] (dCons (dVar 3) dNil)) (dCons (dCall c_law_flip [] (dCons (dVar 4) dNil)) dNil))) (dCons (dCall c_meet [] (dCons (dVar 3) (dCons (dVar 4) dNil))) dNil))) (sSeq (sIf (dOr (dTest (dOp neD (dOp isNonD (dVar 10) (dC .non)) (dOp isNonD (dVar 11) (dC .non)))) (dAnd (dTest (dOp notNonD (dVar 11) (dC .non))) (dAnd (dTest (dOp eqD (dOp ixD (dVar 11) (dC (.int 0))) (dC (.str "at")))) (dTest (dOp neD (dOp ixD (dVar 10) (dC (.int 1))) (dSl3 (dOp ixD (dVar 11) (dC (.int 1))) dNo dNo (dPart (dUn negD (dC (.int 1)))))))))) (sRet (dC (.bl false))) sNext) (sSeq (sSet 7 (dCall c_law_of [] (dCons (dVar 1) (dCons (dOp addD (dCall c_squares [] (dCons (dVar 3) dNil)) (dCall c_squares [] (dCons (dVar 4) dNil))) dNil)))) (sIf (dTest (dOp neD (dCall c_goes [] (dCons (dOp ixD (dVar 6) (dC (.int 0))) (dCons (dTup (dCons (dOp addD (dOp ixD (dVar 7) (dC (.int 0))) (dOp ixD (dVar 5) (dC (.int 0)))) (dCons (dOp addD (dOp ixD (dVar 7) (dC (.int 1))) (dOp ixD (dVar 5) (dC (.int 1)))) dNil))) dNil))) (dCall c_goes [] (dCons (dVar 3) (dCons (dVar 7) dNil))))) (sRet (dC (.bl false))) sNext))))))))))))) (sRet (dC (.bl true)))))
def c_law_k40 : DSp := fnD 9 1
  (sSeq (sSet 1 (dCall bagD [] (dCons (dVar 0) dNil))) (sSeq (sSet 2 (dCall c_law_any_heap [] (dCons (dVar 1) (dCons (dC (.int 7)) dNil)))) (sSeq (sIf (dTest (dOp eqD (dCall pullD [] (dCons (dVar 1) (dCons (dC (.int 3)) dNil))) (dC (.int 0)))) (sSeq (sSet 5 (dOp addD (dLst (dCons (dC (.str "")) (dCons (dC (.str " ")) (dCons (dC (.str "end")) (dCons (dC (.str "cold")) (dCons (dC (.str "Z 9")) (dCons (dC (.str "0")) dNil))))))) (dCall c_law_names [] (dCons (dVar 1) dNil)))) (sSet 2 (dB dictC (dCons (dZipL (dCons (dVar 5) (dCons (dLc (iKeysD (dVar 2)) (gN 8) dYes (dOp ixKD (dVar 2) (dVar 8)) [8]) dNil))) dNil)))) sNext) (sSeq (sSet 3 (dB dictK (dCons (dVar 2) dNil))) (sSeq (sFor (iRng1D (dCons (dC (.int 6)) dNil)) (gN 4) (sSeq (sSet 6 (dCall c_law_spot_near [] (dCons (dVar 1) (dCons (dVar 2) dNil)))) (sSeq (sSet 7 (dCall c_heat_paper [] (dCons (dVar 3) (dCons (dVar 6) dNil)))) (sSeq (sIf (dOr (dNot (dTest (dCall c_law_good_form [] (dCons (dVar 7) dNil)))) (dOr (dNot (dTest (dCall c_law_paper_right [] (dCons (dVar 2) (dCons (dVar 6) (dCons (dVar 7) dNil)))))) (dTest (dOp neD (dVar 3) (dVar 2))))) (sRet (dC (.bl false))) sNext) (sSeq (sIf (dAnd (dTest (dOp eqD (dOp ixD (dVar 7) (dC (.int 0))) (dC (.str "cold")))) (dNot (dTest (dCall (c_law_like 8) [] (dCons (dOp ixD (dVar 7) (dC (.int 1))) (dCons (dB tupleD (dCons (dB sortedC (dCons (dB listD (dCons (dOp ixD (dVar 7) (dC (.int 1))) dNil)) dNil)) dNil)) dNil)))))) (sRet (dC (.bl false))) sNext) (sIf (dOr (dTest (dOp notBD (dCall c_judge_heat [] (dCons (dVar 3) (dCons (dVar 6) (dCons (dVar 7) dNil)))) (dC (.bl true)))) (dTest (dOp neD (dCall c_heat_paper [] (dCons (dVar 3) (dCons (dVar 6) dNil))) (dVar 7)))) (sRet (dC (.bl false))) sNext)))))) (sRet (dOp eqD (dCall c_heat_paper [] (dCons dD0 (dCons (dTup (dCons (dC (.int 3)) (dCons (dC (.int 4)) dNil))) dNil))) (dTup (dCons (dC (.str "cold")) (dCons (dTup dNil) dNil))))))))))
def c_law_k41 : DSp := fnD 10 1
  (sSeq (sSet 1 (dCall bagD [] (dCons (dVar 0) dNil))) (sSeq (sSet 2 (dCall c_law_any_heap [] (dCons (dVar 1) (dCons (dC (.int 7)) dNil)))) (sSeq (sIf (dTest (dOp eqD (dCall pullD [] (dCons (dVar 1) (dCons (dC (.int 3)) dNil))) (dC (.int 0)))) (sSeq (sSet 5 (dOp addD (dLst (dCons (dC (.str "")) (dCons (dC (.str " ")) (dCons (dC (.str "end")) (dCons (dC (.str "cold")) (dCons (dC (.str "Z 9")) (dCons (dC (.str "0")) dNil))))))) (dCall c_law_names [] (dCons (dVar 1) dNil)))) (sSet 2 (dB dictC (dCons (dZipL (dCons (dVar 5) (dCons (dLc (iKeysD (dVar 2)) (gN 9) dYes (dOp ixKD (dVar 2) (dVar 9)) [9]) dNil))) dNil)))) sNext) (sSeq (sSet 3 (dB dictK (dCons (dVar 2) dNil))) (sSeq (sFor (iRng1D (dCons (dC (.int 8)) dNil)) (gN 4) (sSeq (sSet 6 (dCall c_law_spot_near [] (dCons (dVar 1) (dCons (dVar 2) dNil)))) (sSeq (sSet 7 (dCall c_law_any_paper [] (dCons (dVar 1) (dCons (dVar 2) (dCons (dVar 6) dNil))))) (sSeq (sSet 8 (dCall c_law_paper_right [] (dCons (dVar 2) (dCons (dVar 6) (dCons (dVar 7) dNil))))) (sIf (dOr (dNot (dTest (dCall (c_law_like 8) [] (dCons (dCall c_judge_heat [] (dCons (dVar 3) (dCons (dVar 6) (dCons (dVar 7) dNil)))) (dCons (dVar 8) dNil))))) (dTest (dOp neD (dVar 3) (dVar 2)))) (sRet (dC (.bl false))) sNext))))) (sRet (dAndV (dOp isBD (dCall c_judge_heat [] (dCons dD0 (dCons (dTup (dCons (dC (.int 0)) (dCons (dC (.int 0)) dNil))) (dCons (dTup (dCons (dC (.str "end")) (dCons (dC (.str "a")) (dCons (dC (.int 0)) dNil)))) dNil)))) (dC (.bl false))) (dOp isBD (dCall c_judge_heat [] (dCons dD0 (dCons (dTup (dCons (dC (.int 0)) (dCons (dC (.int 0)) dNil))) (dCons (dTup (dCons (dC (.str "cold")) (dCons (dTup dNil) dNil))) dNil)))) (dC (.bl true))))))))))
end DV

namespace K01
open PySem PySem.Spec PyProof.Rows L2 DV
/-! ### the text -/
def topS (i : Nat) : Stmt := PySem.Challenge.pw_dotmoor_k01_parts_in_lowest_terms.main.body.getD i (.Pass ⟨0, 0, 0, 0⟩)
abbrev s_greatest : Stmt := topS 4
abbrev s_lowest : Stmt := topS 5
abbrev s_law_bag : Stmt := topS 7
abbrev s_law_pull : Stmt := topS 8
abbrev s_law_of : Stmt := topS 9
abbrev s_law_like : Stmt := topS 10
abbrev s_law_common : Stmt := topS 11
abbrev s_law_low : Stmt := topS 12
abbrev s_law_over : Stmt := topS 13
abbrev s_law_made : Stmt := topS 14
abbrev s_law : Stmt := topS 15
abbrev s_DotError_i : Stmt := inClass (topS 1) 0
abbrev s_BadPart_i : Stmt := inClass (topS 2) 0
/-- names that the text leaves free, its constants -/
structure Bf (mg : Str → Option Value) : Prop where
  b_LookupError : mg "LookupError" = none
  b_ValueError : mg "ValueError" = none
  b_abs : mg "abs" = none
  b_all : mg "all" = none
  b_bool : mg "bool" = none
  b_dict : mg "dict" = none
  b_int : mg "int" = none
  b_isinstance : mg "isinstance" = none
  b_len : mg "len" = none
  b_list : mg "list" = none
  b_range : mg "range" = none
  b_tuple : mg "tuple" = none
/-! ### the law's draws, by hand -/
abbrev n_law_bag : List Str := ["_law_script", "_law_salt", "_law_cell"]
theorem sc_law_bag : FnScope n_law_bag ["_law_script"] (defScope s_law_bag) := ⟨rfl, rfl, rfl, by decide +kernel, rfl, by decide +kernel, by decide +kernel⟩
theorem int_at {ns : List Int} {i : Nat} {y : V} (h : (ns.map V.int)[i]? = some y) : ∃ z, ns[i]? = some z ∧ y = .int z := by
  rw [List.getElem?_map] at h
  cases e : ns[i]? with
  | none => rw [e] at h; cases h
  | some z => rw [e] at h; exact ⟨z, rfl, (Option.some.inj h).symm⟩
theorem cut63 {xs : List V} (h : xs.length ≤ 63) : cutV xs none (some 63) = xs := by
  unfold cutV
  rw [HT.sIx_none, show HT.sIx xs.length xs.length (some 63) = min 63 xs.length from HT.sIx_nat xs.length xs.length 63, List.drop_zero]
  exact List.take_of_length_le (by omega)
theorem ok_law_bag {P : Program} {w : World} {K : PySem.W.Frag} {mg : Str → Option Value} {base : Heap} {a : Addr} {fd : FuncData} {dvs : List V} (B : Bf mg) (F : FunD K "_law_bag" "_law_bag" (defArgs s_law_bag) (defBody s_law_bag) (defScope s_law_bag) dvs [] a fd) :
    FnOk P w K mg base CX0 1 a fd ["_law_script"] (spD K bagD) := by
  refine F.ok sc_law_bag (fun vs H Q E h => ?_) (fun cdv A outer s H vs Q E hr h => ⟨_, PSs.nox (pss_cons (ps_set (i := 1) sc_law_bag.nd rfl (.inl rfl) pe_int) (pss_cons
    (ps_for PassesOwn.never rfl (pi_list (pe_slice sl_list (pv 0) po_none (po_some pe_int))) (pg_name (i := 2) sc_law_bag.nd rfl (.inl rfl))
      (pss_one (ps_set (i := 1) sc_law_bag.nd rfl (.inl rfl) (pe_op op_modN (pe_op op_add (pe_op op_add (pe_op op_mul (pv 1) pe_int) (pe_op op_modN (pv 2) pe_int)) pe_int) pe_int))))
    (pss_one (ps_ret (pe_lst (pa_cons (pe_callTy call_list_of (by rfl) B.b_list (by decide +kernel) (pa_cons (pe_slice sl_list (pv 0) po_none (po_some pe_int)) pa_nil)) (pa_cons pe_int (pa_cons pe_int (pa_cons (pv 1) pa_nil))))))))), ?_⟩)
  · obtain ⟨F, ds, Q0, _, r, h, _⟩ := h
    rw [r.length, h.1]; rfl
  · obtain ⟨F0, ds, Q0, sb, r, ⟨rfl, h⟩, q⟩ := h
    obtain ⟨x, rfl⟩ : ∃ x, vs = [x] := by
      cases r with
      | cons r1 r2 => cases r2; exact ⟨_, rfl⟩
    cases r with
    | cons r1 r2 =>
    cases r1 with
    | scr hS hl =>
    rename_i c ns
    have hl2 : (ns.map V.int).length ≤ 63 := by simpa using hl
    refine ⟨_, rfl, 63, rfl, c, ns.map V.int, rfl, sb.seqL hS, fun p1 np1 => ⟨p1, rfl, ⟨_, .of upd_same⟩, ?_⟩⟩
    refine for_list (K := K) (a := p1) (xs := cutV (ns.map V.int) none (some 63)) (fun i σ H' => ∃ (salt : Int) (x2 : Option V), σ = [some (.ref c), some (.int salt), x2] ∧ H' = upd H p1 (.lst (cutV (ns.map V.int) none (some 63)))) ⟨9117, none, rfl, rfl⟩ (fun i σ H' _ ⟨_, _, _, e⟩ => e ▸ .of upd_same) ?_ ?_
    · rintro i y σ H' hi ⟨salt, x2, rfl, rfl⟩
      rw [cut63 hl2] at hi
      obtain ⟨z, _, rfl⟩ := int_at hi
      exact ⟨.int salt, rfl, _, _, rfl, rfl, .inr (by decide), .int z, rfl, _, _, rfl, rfl, (by dsimp only; decide), _, _, rfl, rfl, _, _, rfl, rfl, _, _, rfl, rfl, (by dsimp only; decide), _, _, rfl, rfl⟩
    · rintro σ H' ⟨salt, x2, rfl, rfl⟩
      have np1c : ∀ (b : Addr) o, F0 b = some o → b ≠ p1 := fun b o e z => by
        have := sb.none np1
        rw [← z, e] at this; cases this
      have x1 : Ext F0 H F0 (upd H p1 (.lst (cutV (ns.map V.int) none (some 63)))) := Ext.newO sb np1
      refine ⟨_, rfl, 63, rfl, c, ns.map V.int, rfl, x1.sub.seqL hS, fun p2 np2 => ?_⟩
      have x2 := x1.trans (Ext.newO (o := .lst (cutV (ns.map V.int) none (some 63))) x1.sub np2)
      refine ⟨p2, _, rfl, .inl (.of upd_same), fun p3 np3 => ?_⟩
      have hp3 := x2.sub.none np3
      have x3 := x2.trans (Ext.newO (o := .lst (cutV (ns.map V.int) none (some 63))) x2.sub np3)
      refine ⟨_, rfl, by show 4 ≤ sizeLine; decide, fun b nb => ?_⟩
      have hb3 := x3.sub.none nb
      have hbp : p3 ≠ b := fun z => by rw [← z, upd_same] at nb; cases nb
      refine q (.ref b) _ (upd (upd F0 p3 Mark2) b Mark) .bag ⟨fun d o e => ?_, fun d o e z => ?_, fun d o e => ?_⟩ (.bag upd_same) h
      · rw [upd_ne (ne_of_none e hb3), upd_ne (ne_of_none e hp3)]; exact e
      · obtain ⟨k1, k2⟩ := x3.keep d o e z
        obtain ⟨k3, _⟩ := x2.keep d o e z
        have hd : d ≠ b := ne_of_none k1 nb
        have hd2 : d ≠ p3 := ne_of_none k3 np3
        exact ⟨by rw [upd_ne hd]; exact k1, by rw [upd_ne hd, upd_ne hd2]; exact k2⟩
      · by_cases hd : d = b
        · subst hd
          rw [upd_same] at e; cases e
          refine Stands.ofBag ⟨p3, 0, 0, salt, ?_, upd_same⟩
          rw [upd_ne hbp, upd_same]
        · rw [upd_ne hd] at e
          by_cases hd2 : d = p3
          · subst hd2
            rw [upd_same] at e; cases e
            refine Stands.ofScp ⟨ns, ?_, by omega⟩
            rw [upd_ne hd, upd_same, cut63 hl2]
          · rw [upd_ne hd2] at e
            exact (x3.sub d o e).mono (fun g y z => by rw [upd_ne (ne_of_none z hb3), upd_ne (ne_of_none z hp3)]; exact z) fun u z => by rw [upd_ne hd]; exact z

abbrev n_law_pull : List Str := ["_law_bag_here", "_law_amount", "_law_cell", "_law_got", "_law_seed"]
theorem sc_law_pull : FnScope n_law_pull ["_law_bag_here", "_law_amount"] (defScope s_law_pull) := ⟨rfl, rfl, rfl, by decide +kernel, rfl, by decide +kernel, by decide +kernel⟩
def bagL (a : Addr) (p : Nat) (big salt : Int) : HO := .lst [.ref a, .int p, .int big, .int salt]
def tFirst : TS := fun D σ H => ∃ (b : Addr) (n : Int) (a : Addr) (ns : List Int) (p : Nat) (big salt : Int), σ = [some (.ref b), some (.int n), none, none, none] ∧ H b = some (bagL a p big salt) ∧ H a = some (.lst (ns.map V.int)) ∧
  ∀ (x2 : Option V) (p' : Nat) (big' salt' : Int), D.nx [some (.ref b), some (.int n), x2, none, none] (upd H b (bagL a p' big' salt'))
def tRest : TS := fun D σ H => ∃ (b : Addr) (n : Int) (a : Addr) (p : Nat) (big salt : Int) (x2 : Option V), σ = [some (.ref b), some (.int n), x2, none, none] ∧ H b = some (bagL a p big salt) ∧ 0 < n ∧ DivOk n ∧
  ∀ (r big' salt' : Int), 0 ≤ r → r < n → D.rt (.int r) (upd H b (bagL a p big' salt'))
theorem upd_self {H : Hp} {a : Addr} {o : HO} (h : H a = some o) : upd H a o = H := by
  funext b
  by_cases e : b = a
  · subst e; rw [upd_same, h]
  · rw [upd_ne e]
theorem fmod_in {i n : Int} (h : 0 < n) : 0 ≤ i.fmod n ∧ i.fmod n < n := by
  rw [Int.fmod_eq_emod_of_nonneg i (by omega)]
  exact ⟨Int.emod_nonneg i (by omega), Int.emod_lt_of_pos i h⟩
theorem ok_law_pull {P : Program} {w : World} {K : PySem.W.Frag} {mg : Str → Option Value} {base : Heap} {a : Addr} {fd : FuncData} {dvs : List V} (B : Bf mg) (F : FunD K "_law_pull" "_law_pull" (defArgs s_law_pull) (defBody s_law_pull) (defScope s_law_pull) dvs [] a fd) :
    FnOk P w K mg base CX0 1 a fd ["_law_bag_here", "_law_amount"] (spD K pullD) := by
  refine F.ok sc_law_pull (fun vs H Q E h => ?_) (fun cdv A outer s H vs Q E hr h => ⟨_, PSs.nox (pss_cons (PS.impD (t' := tFirst) (ps_if (PW.pt (pw_and (pt_cmpR op_eq (pe_ix ix_list (pv 0) pe_int (fun _ _ => rfl)) pe_int (nomark _))
      (pw_and1 (pt_cmpR op_lt (pe_ix ix_list (pv 0) pe_int (fun _ _ => rfl)) (pe_callB call_len_seq (by rfl) B.b_len boot_len (pa_cons (pe_ix ix_list (pv 0) pe_int (fun _ _ => rfl)) pa_nil)) (nomark _)))))
    (pss_cons (ps_set (i := 2) sc_law_pull.nd rfl (.inl rfl) (pe_ix ix_list (pe_ix ix_list (pv 0) pe_int (fun _ _ => rfl)) (pe_ix ix_list (pv 0) pe_int (fun _ _ => rfl)) (fun _ _ => rfl)))
    (pss_cons (ps_asg (pe_op op_add (pe_ix ix_list (pv 0) pe_int (fun _ _ => rfl)) pe_int) (pg_sub (pv 0) pe_int set_list))
    (pss_one (ps_if (pt_cmpR op_ge (pv 2) (pe_op op_pow pe_int pe_int) (nomark _)) (pss_one (ps_asg (pv 2) (pg_sub (pv 0) pe_int set_list)))
      (pss_one (ps_asg (pe_op op_modN (pe_op op_add (pe_op op_add (pe_op op_mul (pe_ix ix_list (pv 0) pe_int (fun _ _ => rfl)) pe_int) (pe_op op_mul (pe_op op_modN (pv 2) pe_int) pe_int)) pe_int) pe_int) (pg_sub (pv 0) pe_int set_list)))))))
    pss_nil) ?first)
   (PSs.impD (t' := tRest) (pss_cons (ps_if (pt_cmpR op_gt (pe_ix ix_list (pv 0) pe_int (fun _ _ => rfl)) pe_int (nomark _))
      (pss_cons (ps_set (i := 3) sc_law_pull.nd rfl (.inl rfl) (pe_op op_modN (pe_ix ix_list (pv 0) pe_int (fun _ _ => rfl)) (pv 1)))
      (pss_cons (ps_asg (pe_op op_fdivA (pe_ix ix_list (pv 0) pe_int (fun _ _ => rfl)) (pv 1)) (pg_sub (pv 0) pe_int set_list)) (pss_one (ps_ret (pv 3))))) pss_nil)
    (pss_cons (ps_set (i := 4) sc_law_pull.nd rfl (.inl rfl) (pe_ix ix_list (pv 0) pe_int (fun _ _ => rfl)))
    (pss_cons (ps_asg (pe_op op_modN (pe_op op_add (pe_op op_add (pe_op op_mul (pv 4) pe_int) (pe_op op_mul (pe_op op_fdivA (pv 4) pe_int) pe_int)) pe_int) pe_int) (pg_sub (pv 0) pe_int set_list))
    (pss_one (ps_ret (pe_op op_modN (pe_op op_add (pe_op op_fdivA (pe_ix ix_list (pv 0) pe_int (fun _ _ => rfl)) pe_int) (pe_op op_mul (pe_op op_modN (pe_ix ix_list (pv 0) pe_int (fun _ _ => rfl)) pe_int) pe_int)) (pv 1))))))) ?rest)), ?_⟩)
  case first =>
    intro N σ H h
    obtain ⟨b, n, a, ns, p, big, salt, rfl, hb, ha, k⟩ := h
    have keep : ∀ x2, N.nx [some (.ref b), some (.int n), x2, none, none] H := fun x2 => by
      have := k x2 p big salt
      rwa [upd_self hb] at this
    have nab : a ≠ b := ne_of ha hb (by intro z; unfold bagL at z; injection z with z; cases ns <;> cases z)
    refine ⟨.ref b, rfl, _, _, _, _, rfl, rfl, .of hb, rfl, rfl, _, rfl, ite2 (fun _ => ?_) (fun _ => ?_)⟩
    · refine ⟨.ref b, rfl, _, _, _, _, rfl, rfl, .of hb, rfl, .ref b, rfl, _, _, _, _, rfl, rfl, .of hb, rfl, _, _, rfl, .inl (.of ha), _, _, rfl, rfl, _, rfl, ite2 (fun c => ?_) (fun _ => ?_)⟩
      · have c' : (p : Int) < (ns.map V.int).length := of_decide_eq_true c
        have hp : p < ns.length := by
          rw [List.length_map] at c'
          omega
        have e1 : atI (ns.map V.int) (p : Int) = some (.int ns[p]) := atI_nat (by rw [List.getElem?_map, List.getElem?_eq_getElem hp]; rfl)
        refine ⟨.ref b, rfl, _, _, _, _, rfl, rfl, .of hb, rfl, .ref b, rfl, _, _, _, _, rfl, rfl, .of hb, rfl, _, _, _, _, rfl, rfl, .of ha, e1, ?_⟩
        refine ⟨.ref b, rfl, _, _, _, _, rfl, rfl, .of hb, rfl, _, _, rfl, rfl, .ref b, rfl, _, _, _, _, rfl, rfl, hb, rfl, ?_⟩
        refine ⟨.int ns[p], rfl, _, _, rfl, rfl, ⟨by decide, by decide, by decide⟩, _, _, rfl, rfl, _, rfl, ite2 (fun _ => ?_) (fun _ => ?_)⟩
        · refine ⟨.int ns[p], rfl, .ref b, rfl, _, _, _, _, rfl, rfl, upd_same, rfl, ?_⟩
          rw [upd_upd]
          exact k _ (p + 1) ns[p] salt
        · refine ⟨.ref b, rfl, _, _, _, _, rfl, rfl, .of upd_same, rfl, _, _, rfl, rfl, .inr (by decide), .int ns[p], rfl, _, _, rfl, rfl, (by dsimp only; decide), _, _, rfl, rfl, .inr (by decide), _, _, rfl, rfl, _, _, rfl, rfl, _, _, rfl, rfl, (by dsimp only; decide), .ref b, rfl, _, _, _, _, rfl, rfl, upd_same, rfl, ?_⟩
          rw [upd_upd]
          exact k _ (p + 1) big _
      · exact keep _
    · exact keep _
  case rest =>
    intro N σ H h
    obtain ⟨b, n, a, p, big, salt, x2, rfl, hb, hn, hd, k⟩ := h
    refine ⟨.ref b, rfl, _, _, _, _, rfl, rfl, .of hb, rfl, _, _, rfl, rfl, _, rfl, ite2 (fun _ => ?_) (fun _ => ?_)⟩
    · refine ⟨.ref b, rfl, _, _, _, _, rfl, rfl, .of hb, rfl, .int n, rfl, _, _, rfl, rfl, hd.1, ?_⟩
      refine ⟨.ref b, rfl, _, _, _, _, rfl, rfl, .of hb, rfl, .int n, rfl, _, _, rfl, rfl, hd, .ref b, rfl, _, _, _, _, rfl, rfl, hb, rfl, _, rfl, ?_⟩
      exact k _ _ salt (fmod_in hn).1 (fmod_in hn).2
    · refine ⟨.ref b, rfl, _, _, _, _, rfl, rfl, .of hb, rfl, ?_⟩
      refine ⟨.int salt, rfl, _, _, rfl, rfl, .inr (by decide), .int salt, rfl, _, _, rfl, rfl, ⟨by decide, by decide +kernel⟩, _, _, rfl, rfl, .inr (by decide), _, _, rfl, rfl, _, _, rfl, rfl, _, _, rfl, rfl, (by dsimp only; decide), .ref b, rfl, _, _, _, _, rfl, rfl, hb, rfl, ?_⟩
      refine ⟨.ref b, rfl, _, _, _, _, rfl, rfl, .of upd_same, rfl, _, _, rfl, rfl, ⟨by decide, by decide +kernel⟩, .ref b, rfl, _, _, _, _, rfl, rfl, .of upd_same, rfl, _, _, rfl, rfl, (by dsimp only; decide), _, _, rfl, rfl, .inr (by decide), _, _, rfl, rfl, .int n, rfl, _, _, rfl, rfl, hd.1, ?_⟩
      exact k _ big _ (fmod_in hn).1 (fmod_in hn).2
  · obtain ⟨F, ds, Q0, _, r, h, _⟩ := h
    obtain ⟨n, rfl, _⟩ := h
    rw [r.length]; rfl
  · obtain ⟨F0, ds, Q0, sb, r, ⟨n, rfl, hn, hn2, h⟩, q⟩ := h
    obtain ⟨b, rfl⟩ : ∃ b, vs = [.ref b, .int n] := by
      cases r with
      | cons r1 r2 =>
        cases r2 with
        | cons r2 r3 =>
          cases r3; cases r1; cases r2; exact ⟨_, rfl⟩
    cases r with
    | cons r1 r2 =>
    cases r1 with
    | bag hm =>
    obtain ⟨c, p, big, salt, hF, hb⟩ := (sb b _ hm).bag
    obtain ⟨ns, hc, hl⟩ := (sb c _ hF).scp
    refine ⟨b, n, c, ns, p, big, salt, rfl, hb, hc, fun x2 p' big' salt' => ?_⟩
    refine ⟨b, n, c, p', big', salt', x2, rfl, upd_same, hn, hn2, fun r big2 salt2 r0 r1 => ?_⟩
    · rw [upd_upd]
      refine q (.int r) _ F0 (.int r) ⟨Same.refl F0, fun d o e z => ?_, fun d o e => ?_⟩ (.int r) (h r r0 r1)
      · have hd : d ≠ b := fun y => by rw [y, hm] at e; cases e
        rw [upd_ne hd]; exact ⟨z, e⟩
      · by_cases hd : d = b
        · subst hd
          rw [hm] at e; cases e
          exact Stands.ofBag ⟨c, p', big2, salt2, hF, upd_same⟩
        · exact (sb d o e).mono (Same.refl F0) fun u y => by rw [upd_ne hd]; exact y

/-! ### the defs: names, scopes -/
abbrev n_greatest : List Str := ["one", "other"]
theorem sc_greatest : FnScope n_greatest ["one", "other"] (defScope s_greatest) := ⟨rfl, rfl, rfl, by decide +kernel, rfl, by decide +kernel, by decide +kernel⟩
abbrev n_lowest : List Str := ["over", "under", "both"]
theorem sc_lowest : FnScope n_lowest ["over", "under"] (defScope s_lowest) := ⟨rfl, rfl, rfl, by decide +kernel, rfl, by decide +kernel, by decide +kernel⟩
abbrev n_law_of : List Str := ["_law_bag_here", "_law_things"]
theorem sc_law_of : FnScope n_law_of ["_law_bag_here", "_law_things"] (defScope s_law_of) := ⟨rfl, rfl, rfl, by decide +kernel, rfl, by decide +kernel, by decide +kernel⟩
abbrev n_law_like : List Str := ["_law_found", "_law_due", "_law_k"]
theorem sc_law_like : FnScope n_law_like ["_law_found", "_law_due"] (defScope s_law_like) := ⟨rfl, rfl, rfl, by decide +kernel, rfl, by decide +kernel, by decide +kernel⟩
abbrev n_law_common : List Str := ["_law_one", "_law_other"]
theorem sc_law_common : FnScope n_law_common ["_law_one", "_law_other"] (defScope s_law_common) := ⟨rfl, rfl, rfl, by decide +kernel, rfl, by decide +kernel, by decide +kernel⟩
abbrev n_law_low : List Str := ["_law_over_here", "_law_under", "_law_both"]
theorem sc_law_low : FnScope n_law_low ["_law_over_here", "_law_under"] (defScope s_law_low) := ⟨rfl, rfl, rfl, by decide +kernel, rfl, by decide +kernel, by decide +kernel⟩
abbrev n_law_over : List Str := ["_law_bag_here", "_law_far"]
theorem sc_law_over : FnScope n_law_over ["_law_bag_here"] (defScope s_law_over) := ⟨rfl, rfl, rfl, by decide +kernel, rfl, by decide +kernel, by decide +kernel⟩
abbrev n_law_made : List Str := ["_law_over_here", "_law_under", "_law_found", "e"]
theorem sc_law_made : FnScope n_law_made ["_law_over_here", "_law_under"] (defScope s_law_made) := ⟨rfl, rfl, rfl, by decide +kernel, rfl, by decide +kernel, by decide +kernel⟩
abbrev n_law : List Str := ["_law_script", "_law_bag_here", "_law_turn", "_law_due", "_law_over_here", "_law_under"]
theorem sc_law : FnScope n_law ["_law_script"] (defScope s_law) := ⟨rfl, rfl, rfl, by decide +kernel, rfl, by decide +kernel, by decide +kernel⟩
/-! ### each def keeps its reading -/
section
variable {P : Program} {w : World} {K : PySem.W.Frag} {mg : Str → Option Value} {base : Heap} {a : Addr} {fd : FuncData} {dvs : List V}
theorem sc_DotError_i : FnScope ["self", "word"] ["self", "word"] (defScope s_DotError_i) := ⟨rfl, rfl, rfl, by decide +kernel, rfl, by decide +kernel, by decide +kernel⟩
theorem ok_DotError_i (hV : mg "ValueError" = none) (vV : PySem.W.findCls K (.type "ValueError") (.type "type") "__init__" = some (.val (.builtin "ValueError.__init__"))) (F : FunD K "__init__" "DotError.__init__" (defArgs s_DotError_i) (defBody s_DotError_i) (defScope s_DotError_i) [] [] a fd) : FnOk P w K mg base CX0 1 a fd ["self", "word"] (spI1 K) :=
  mk_I1 F sc_DotError_i fun cdv A outer s H E => pss_cons (ps_expr (pe_veinit rfl hV vV (pa_cons (pv 0) (pa_cons (pv 1) pa_nil)))) (pss_one (ps_ost (pv 0) (pv 1)))
theorem sc_BadPart_i : FnScope ["self"] ["self"] (defScope s_BadPart_i) := ⟨rfl, rfl, rfl, by decide +kernel, rfl, by decide +kernel, by decide +kernel⟩
theorem ok_BadPart_i {D f0 : Addr} {fd0 : FuncData} (hm : mg "DotError" = some (.ref D)) (N : IniC K D f0) (F0 : FnOk P w K mg base CX0 1 f0 fd0 ["self", "word"] (spI1 K)) (hb0 : Binds K fd0 ["self", "word"] []) (F : FunD K "__init__" "BadPart.__init__" (defArgs s_BadPart_i) (defBody s_BadPart_i) (defScope s_BadPart_i) [] [] a fd) : FnOk P w K mg base CX0 2 a fd ["self"] (spI2 K "BadPart") :=
  mk_I2 (k := 1) F sc_BadPart_i fun cdv A outer s H E hr => pss_one (ps_expr (pe_bini rfl hm N F0 hr hb0 L2.pass0 (pa_cons (pv 0) (pa_cons pe_str pa_nil))))
/-- what a class says that is caught -/
structure Ct (K : PySem.W.Frag) (mg : Str → Option Value) (n : Str) (no gs : List Str) : Prop where
  gl : mg n = some (.ref (He.ga K n))
  c : ClsD K n gs
  yes : PySem.W.exmOne K (.ref (He.ga K n)) (.ref (He.ga K n)) = some true
  no : ∀ m ∈ no, PySem.W.exmOne K (.ref (He.ga K m)) (.ref (He.ga K n)) = some false
theorem ok_greatest (B : Bf mg)   (F : FunD K "greatest" "greatest" (defArgs s_greatest) (defBody s_greatest) (defScope s_greatest) dvs [] a fd) : FnOk P w K mg base CX0 1 a fd ["one", "other"] (spD K c_greatest) := by
  refine fn_okD (k := 0) F sc_greatest fun cdv A outer s H E hr => ?_
  exact (pds_cons (pds_par (i := 0) (j := 1) rfl sc_greatest.nd rfl rfl (by decide) rfl rfl (pda_cons (pd_cb call_abs cd_abs B.b_abs (by decide +kernel) (pda_cons (pd_var (pv 0)) pda_nil)) (pda_cons (pd_cb call_abs cd_abs B.b_abs (by decide +kernel) (pda_cons (pd_var (pv 1)) pda_nil)) pda_nil)) (by rfl)) (pds_cons (pds_while PassesOwn.never (pdt_cmp (op_gt.or (op_gtX (hu64 hr))) (opD_or od_gt od_ord) (nomark _) (pd_var (pv 1)) pd_int) (pds_one (pds_par (i := 0) (j := 1) rfl sc_greatest.nd rfl rfl (by decide) rfl rfl (pda_cons (pd_var (pv 1)) (pda_cons (pd_mod (pd_var (pv 0)) (pd_var (pv 1))) pda_nil)) (by rfl)))) (pds_one (pds_ret (pd_var (pv 0))))))
theorem ok_lowest (B : Bf mg) (G_greatest : Gd P w K mg base "greatest" 1 [] c_greatest) (E_BadPart : Rs0 P w K mg base "BadPart") (F : FunD K "lowest" "lowest" (defArgs s_lowest) (defBody s_lowest) (defScope s_lowest) dvs [] a fd) : FnOk P w K mg base (L2.CX P w) 4 a fd ["over", "under"] (spDX K c_lowestX) := by
  refine fn_okX (k := 3) F sc_lowest fun cdv A outer s H E hr tk => ?_
  exact (pdx_cons (pdx_if (pdt_cmp (op_eqD hr.units) od_eq (nomark _) (pd_var (pv 1)) pd_int) (pdx_one (pdx_rs0 E_BadPart tk (hr.mono (by decide)))) pdxs_nil) (pdx_cons (pdx_nox (pds_set (i := 2) sc_lowest.nd rfl (Or.inl rfl) (pd_call G_greatest (hr.mono (by decide)) (pda_cons (pd_var (pv 0)) (pda_cons (pd_var (pv 1)) pda_nil))))) (pdx_cons (pdx_nox (pds_if (pdt_cmp (op_lt.or (op_ltX (hu64 hr))) (opD_or od_lt od_ord) (nomark _) (pd_var (pv 1)) pd_int) (pds_one (pds_set (i := 2) sc_lowest.nd rfl (Or.inl rfl) (pd_neg (pd_var (pv 2))))) pds_nil)) (pdx_one (pdx_nox (pds_ret (pd_tup (pda_cons (pd_fdiv (pd_var (pv 0)) (pd_var (pv 2))) (pda_cons (pd_fdiv (pd_var (pv 1)) (pd_var (pv 2))) pda_nil)))))))))
theorem ok_law_of (B : Bf mg) (G_law_pull : Gd P w K mg base "_law_pull" 1 [] pullD)  (F : FunD K "_law_of" "_law_of" (defArgs s_law_of) (defBody s_law_of) (defScope s_law_of) dvs [] a fd) : FnOk P w K mg base CX0 2 a fd ["_law_bag_here", "_law_things"] (spD K c_law_of) := by
  refine fn_okD (k := 1) F sc_law_of fun cdv A outer s H E hr => ?_
  exact (pds_one (pds_ret (pd_item (pd_var (pv 1)) (pd_call G_law_pull (hr.mono (by decide)) (pda_cons (pd_var (pv 0)) (pda_cons (pd_cb call_len cd_len B.b_len (by decide +kernel) (pda_cons (pd_var (pv 1)) pda_nil)) pda_nil))))))
theorem ok_law_like (B : Bf mg) (hm : mg "_law_like" = some (.ref a)) (hb : Binds K fd ["_law_found", "_law_due"] [])   (F : FunD K "_law_like" "_law_like" (defArgs s_law_like) (defBody s_law_like) (defScope s_law_like) dvs [] a fd) : ∀ n, FnOk P w K mg base CX0 n a fd ["_law_found", "_law_due"] (spD K (c_law_like n))
  | 0 => ⟨fun vs H Q E h => (let ⟨_, _, _, _, _, z, _⟩ := h; z.elim), fun A outer s H args us vs Q E _ _ _ _ h => (let ⟨_, _, _, _, _, z, _⟩ := h; z.elim)⟩
  | n + 1 => by
    have G_self : Gd P w K mg base "_law_like" n [] (c_law_like n) := mkGd hm F.kp (ok_law_like B hm hb  F n) ⟨[], .nil, hb⟩ (fun _ => .nil)
    refine fn_okD (k := n) F sc_law_like fun cdv A outer s H E hr => ?_
    exact (pds_cons (pds_if (pdt_val (pd_isi "dict" (by decide +kernel) (by decide +kernel) B.b_isinstance B.b_dict (pd_var (pv 1)))) pdss_never pds_nil) (pds_cons (pds_if (pdt_w (pdw_or (pdt_cmp (op_neD hr.units) od_ne (nomark _) (pd_isi "tuple" (by decide +kernel) (by decide +kernel) B.b_isinstance B.b_tuple (pd_var (pv 1))) (pd_isi "tuple" (by decide +kernel) (by decide +kernel) B.b_isinstance B.b_tuple (pd_var (pv 0)))) (pdw_or1 (pdt_cmp (op_neD hr.units) od_ne (nomark _) (pd_isi "list" (by decide +kernel) (by decide +kernel) B.b_isinstance B.b_list (pd_var (pv 1))) (pd_isi "list" (by decide +kernel) (by decide +kernel) B.b_isinstance B.b_list (pd_var (pv 0))))))) (pds_one (pds_ret pd_bl)) pds_nil) (pds_cons (pds_if (pdt_not (pdt_val (pd_isi2 "tuple" "list" (by decide +kernel) (by decide +kernel) (by decide +kernel) (by decide +kernel) B.b_isinstance B.b_tuple B.b_list (pd_var (pv 1))))) (pds_one (pds_ret (pd_and (pd_cmp (op_eqD hr.units) od_eq (nomark _) (pd_isi "bool" (by decide +kernel) (by decide +kernel) B.b_isinstance B.b_bool (pd_var (pv 0))) (pd_isi "bool" (by decide +kernel) (by decide +kernel) B.b_isinstance B.b_bool (pd_var (pv 1)))) (pd_one (pd_cmp (op_eqD hr.units) od_eq (nomark _) (pd_var (pv 0)) (pd_var (pv 1))))))) pds_nil) (pds_one (pds_ret (pd_and (pd_cmp (op_eqD hr.units) od_eq (nomark _) (pd_cb call_len cd_len B.b_len (by decide +kernel) (pda_cons (pd_var (pv 0)) pda_nil)) (pd_cb call_len cd_len B.b_len (by decide +kernel) (pda_cons (pd_var (pv 1)) pda_nil))) (pd_one (pd_cb (cr_all rfl) cd_all B.b_all (by decide +kernel) (pda_cons (pd_lc (own := [("_law_k", 2)]) (rg_nm (by decide)) rfl sc_law_like.nd (pdi_range1 B.b_range (pda_cons (pd_cb call_len cd_len B.b_len (by decide +kernel) (pda_cons (pd_var (pv 1)) pda_nil)) pda_nil)) (blkOk_by (own := [("_law_k", 2)]) (N := n_law_like) (sc := defScope s_law_like) (by decide +kernel)) (fun _ _ _ _ _ => (pg_name (i := 2) sc_law_like.nd rfl (Or.inl rfl))) (fun _ _ _ _ _ => pdts_nil) (fun _ _ _ _ _ => (pd_call G_self hr (pda_cons (pd_item (pd_var (pv 0)) (pd_var (pv 2))) (pda_cons (pd_item (pd_var (pv 1)) (pd_var (pv 2))) pda_nil))))) pda_nil)))))))))
theorem ok_law_common (B : Bf mg)   (F : FunD K "_law_common" "_law_common" (defArgs s_law_common) (defBody s_law_common) (defScope s_law_common) dvs [] a fd) : FnOk P w K mg base CX0 1 a fd ["_law_one", "_law_other"] (spD K c_greatest) := by
  refine fn_okD (k := 0) F sc_law_common fun cdv A outer s H E hr => ?_
  exact (pds_cons (pds_par (i := 0) (j := 1) rfl sc_law_common.nd rfl rfl (by decide) rfl rfl (pda_cons (pd_cb call_abs cd_abs B.b_abs (by decide +kernel) (pda_cons (pd_var (pv 0)) pda_nil)) (pda_cons (pd_cb call_abs cd_abs B.b_abs (by decide +kernel) (pda_cons (pd_var (pv 1)) pda_nil)) pda_nil)) (by rfl)) (pds_cons (pds_while PassesOwn.never (pdt_cmp (op_gt.or (op_gtX (hu64 hr))) (opD_or od_gt od_ord) (nomark _) (pd_var (pv 1)) pd_int) (pds_one (pds_par (i := 0) (j := 1) rfl sc_law_common.nd rfl rfl (by decide) rfl rfl (pda_cons (pd_var (pv 1)) (pda_cons (pd_mod (pd_var (pv 0)) (pd_var (pv 1))) pda_nil)) (by rfl)))) (pds_one (pds_ret (pd_var (pv 0))))))
theorem ok_law_low (B : Bf mg) (G_law_common : Gd P w K mg base "_law_common" 1 [] c_greatest)  (F : FunD K "_law_low" "_law_low" (defArgs s_law_low) (defBody s_law_low) (defScope s_law_low) dvs [] a fd) : FnOk P w K mg base CX0 2 a fd ["_law_over_here", "_law_under"] (spD K c_law_low) := by
  refine fn_okD (k := 1) F sc_law_low fun cdv A outer s H E hr => ?_
  exact (pds_cons (pds_set (i := 2) sc_law_low.nd rfl (Or.inl rfl) (pd_call G_law_common (hr.mono (by decide)) (pda_cons (pd_var (pv 0)) (pda_cons (pd_var (pv 1)) pda_nil)))) (pds_cons (pds_if (pdt_cmp (op_lt.or (op_ltX (hu64 hr))) (opD_or od_lt od_ord) (nomark _) (pd_var (pv 1)) pd_int) (pds_one (pds_set (i := 2) sc_law_low.nd rfl (Or.inl rfl) (pd_sub pd_int (pd_var (pv 2))))) pds_nil) (pds_one (pds_ret (pd_tup (pda_cons (pd_fdiv (pd_var (pv 0)) (pd_var (pv 2))) (pda_cons (pd_fdiv (pd_var (pv 1)) (pd_var (pv 2))) pda_nil)))))))
theorem ok_law_over (B : Bf mg) (G_law_of : Gd P w K mg base "_law_of" 2 [] c_law_of) (G_law_pull : Gd P w K mg base "_law_pull" 1 [] pullD)  (F : FunD K "_law_over" "_law_over" (defArgs s_law_over) (defBody s_law_over) (defScope s_law_over) dvs [] a fd) : FnOk P w K mg base CX0 3 a fd ["_law_bag_here"] (spD K c_law_over) := by
  refine fn_okD (k := 2) F sc_law_over fun cdv A outer s H E hr => ?_
  exact (pds_cons (pds_set (i := 1) sc_law_over.nd rfl (Or.inl rfl) (pd_call G_law_of (hr.mono (by decide)) (pda_cons (pd_var (pv 0)) (pda_cons (pd_lst (pda_cons pd_int (pda_cons pd_int (pda_cons pd_int (pda_cons (pd_pow pd_int pd_int) pda_nil))))) pda_nil)))) (pds_one (pds_ret (pd_add (pd_sub (pd_call G_law_pull (hr.mono (by decide)) (pda_cons (pd_var (pv 0)) (pda_cons (pd_sub (pd_mul pd_int (pd_var (pv 1))) pd_int) pda_nil))) (pd_var (pv 1))) pd_int))))
theorem ok_law_made (B : Bf mg) (G_lowest : GdX P w K mg base "lowest" 4 [] c_lowestX) (C_BadPart : Ct K mg "BadPart" [] ["word"]) (I_BadPart_LookupError : PySem.W.kitOne K (.ref (He.ga K "BadPart")) (.type "LookupError") = some false) (I_BadPart_ValueError : PySem.W.kitOne K (.ref (He.ga K "BadPart")) (.type "ValueError") = some true) (I_BadPart_DotError : PySem.W.kitOne K (.ref (He.ga K "BadPart")) (.ref (He.ga K "DotError")) = some true) (M_DotError : mg "DotError" = some (.ref (He.ga K "DotError"))) (F : FunD K "_law_made" "_law_made" (defArgs s_law_made) (defBody s_law_made) (defScope s_law_made) dvs [] a fd) : FnOk P w K mg base CX0 5 a fd ["_law_over_here", "_law_under"] (spD K c_law_made) := by
  refine fn_okD (k := 4) F sc_law_made fun cdv A outer s H E hr => ?_
  exact (pds_cons (pds_set (i := 2) sc_law_made.nd rfl (Or.inl rfl) pd_non) (pds_cons (pds_try rfl rfl sc_law_made.nd (fun W pn xe tk _ => (pdx_one (pdx_set (i := 2) sc_law_made.nd rfl (Or.inl rfl) tk G_lowest (hr.mono (by decide)) (pda_cons (pd_var (pv 0)) (pda_cons (pd_var (pv 1)) pda_nil))))) (HdsD.cons (h := ⟨"BadPart", _, 3, _⟩) rfl rfl ⟨rfl, by decide, .inl C_BadPart.gl⟩ C_BadPart.yes (fun m hm => C_BadPart.no m hm) (fun a oe d pn hz hf => (psf_set (j := 2) sc_law_made.nd rfl (Or.inl rfl) (pef_tup (paf_cons (pef_fld C_BadPart.c.xf (C_BadPart.c.no _ (by decide)) hz hf (pv 3)) (paf_cons (pef_is (c := .ref (He.ga K "DotError")) C_BadPart.c.is hz hf I_BadPart_DotError (fun u r => r) B.b_isinstance (pv 3) (pe_glob (x := "DotError") rfl M_DotError rfl (by decide))) (paf_cons (pef_is (c := .ty "ValueError") C_BadPart.c.is hz hf I_BadPart_ValueError (fun u r => r) B.b_isinstance (pv 3) (pe_bltn (x := "ValueError") rfl B.b_ValueError (by decide +kernel) rfl (by decide) (by decide))) (paf_cons (pef_is (c := .ty "LookupError") C_BadPart.c.is hz hf I_BadPart_LookupError (fun u r => r) B.b_isinstance (pv 3) (pe_bltn (x := "LookupError") rfl B.b_LookupError (by decide +kernel) rfl (by decide) (by decide))) paf_nil))))))) HdsD.nil)) (pds_one (pds_ret (pd_var (pv 2))))))
theorem ok_law (B : Bf mg) (G_law_bag : Gd P w K mg base "_law_bag" 1 [] bagD) (G_law_over : Gd P w K mg base "_law_over" 3 [] c_law_over) (G_law_pull : Gd P w K mg base "_law_pull" 1 [] pullD) (G_law_low : Gd P w K mg base "_law_low" 2 [] c_law_low) (G_law_made : Gd P w K mg base "_law_made" 5 [] c_law_made) (G_law_like : Gd P w K mg base "_law_like" 8 [] (c_law_like 8)) (G_lowest_d1 : GdX P w K mg base "lowest" 4 [.int 1] c_lowestX)  (F : FunD K "law" "law" (defArgs s_law) (defBody s_law) (defScope s_law) dvs [] a fd) : FnOk P w K mg base CX0 9 a fd ["_law_script"] (spD K c_law_k01) := by
  refine fn_okD (k := 8) F sc_law fun cdv A outer s H E hr => ?_
  exact (pds_cons (pds_set (i := 1) sc_law.nd rfl (Or.inl rfl) (pd_call G_law_bag (hr.mono (by decide)) (pda_cons (pd_var (pv 0)) pda_nil))) (pds_cons (pds_for (vs := [2]) (rg_nm (by decide)) PassesOwn.never rfl (pdi_range1 B.b_range (pda_cons pd_int pda_nil)) (pg_name (i := 2) sc_law.nd rfl (Or.inl rfl)) (pds_cons (pds_par (i := 4) (j := 5) rfl sc_law.nd rfl rfl (by decide) rfl rfl (pda_cons (pd_call G_law_over (hr.mono (by decide)) (pda_cons (pd_var (pv 1)) pda_nil)) (pda_cons (pd_mul (pd_call G_law_over (hr.mono (by decide)) (pda_cons (pd_var (pv 1)) pda_nil)) (pd_ct call_int1 cd_int B.b_int (by decide +kernel) (pda_cons (pd_cmp (op_gt.or (op_gtX (hu64 hr))) (opD_or od_gt od_ord) (nomark _) (pd_call G_law_pull (hr.mono (by decide)) (pda_cons (pd_var (pv 1)) (pda_cons pd_int pda_nil))) pd_int) pda_nil))) pda_nil)) (by rfl)) (pds_cons (pds_set (i := 3) sc_law.nd rfl (Or.inl rfl) (pd_tup (pda_cons pd_str (pda_cons pd_bl (pda_cons pd_bl (pda_cons pd_bl pda_nil)))))) (pds_cons (pds_if (pdt_cmp (op_neD hr.units) od_ne (nomark _) (pd_var (pv 5)) pd_int) (pds_one (pds_set (i := 3) sc_law.nd rfl (Or.inl rfl) (pd_call G_law_low (hr.mono (by decide)) (pda_cons (pd_var (pv 4)) (pda_cons (pd_var (pv 5)) pda_nil))))) pds_nil) (pds_one (pds_if (pdt_w (pdw_or (pdt_not (pdt_val (pd_call G_law_like (hr.mono (by decide)) (pda_cons (pd_call G_law_made (hr.mono (by decide)) (pda_cons (pd_var (pv 4)) (pda_cons (pd_var (pv 5)) pda_nil))) (pda_cons (pd_var (pv 3)) pda_nil))))) (pdw_or1 (pdt_not (pdt_val (pd_call G_law_like (hr.mono (by decide)) (pda_cons (pd_gdx takes0 G_lowest_d1 (hr.mono (by decide)) (pda_cons (pd_var (pv 4)) pda_nil)) (pda_cons (pd_tup (pda_cons (pd_var (pv 4)) (pda_cons pd_int pda_nil))) pda_nil)))))))) (pds_one (pds_ret pd_bl)) pds_nil)))))) (pds_one (pds_ret pd_bl))))
end
end K01

namespace K01
open PySem PySem.Spec PyProof.Rows L2 DV
/-! ### the head: facts by names, the run -/
def d_greatest : He.DefD := ⟨("greatest", none), "greatest", "greatest", defArgs s_greatest, defBody s_greatest, defScope s_greatest, [], []⟩
def d_lowest : He.DefD := ⟨("lowest", none), "lowest", "lowest", defArgs s_lowest, defBody s_lowest, defScope s_lowest, [.int 1], []⟩
def d_law_bag : He.DefD := ⟨("_law_bag", none), "_law_bag", "_law_bag", defArgs s_law_bag, defBody s_law_bag, defScope s_law_bag, [], []⟩
def d_law_pull : He.DefD := ⟨("_law_pull", none), "_law_pull", "_law_pull", defArgs s_law_pull, defBody s_law_pull, defScope s_law_pull, [], []⟩
def d_law_of : He.DefD := ⟨("_law_of", none), "_law_of", "_law_of", defArgs s_law_of, defBody s_law_of, defScope s_law_of, [], []⟩
def d_law_like : He.DefD := ⟨("_law_like", none), "_law_like", "_law_like", defArgs s_law_like, defBody s_law_like, defScope s_law_like, [], []⟩
def d_law_common : He.DefD := ⟨("_law_common", none), "_law_common", "_law_common", defArgs s_law_common, defBody s_law_common, defScope s_law_common, [], []⟩
def d_law_low : He.DefD := ⟨("_law_low", none), "_law_low", "_law_low", defArgs s_law_low, defBody s_law_low, defScope s_law_low, [], []⟩
def d_law_over : He.DefD := ⟨("_law_over", none), "_law_over", "_law_over", defArgs s_law_over, defBody s_law_over, defScope s_law_over, [], []⟩
def d_law_made : He.DefD := ⟨("_law_made", none), "_law_made", "_law_made", defArgs s_law_made, defBody s_law_made, defScope s_law_made, [], []⟩
def d_law : He.DefD := ⟨("law", none), "law", "law", defArgs s_law, defBody s_law, defScope s_law, [], []⟩
def d_DotError_i : He.DefD := ⟨("DotError", some "__init__"), "__init__", "DotError.__init__", defArgs s_DotError_i, defBody s_DotError_i, defScope s_DotError_i, [], []⟩
def d_BadPart_i : He.DefD := ⟨("BadPart", some "__init__"), "__init__", "BadPart.__init__", defArgs s_BadPart_i, defBody s_BadPart_i, defScope s_BadPart_i, [], []⟩
def fnL : List He.DefD := [d_greatest, d_lowest, d_law_bag, d_law_pull, d_law_of, d_law_like, d_law_common, d_law_low, d_law_over, d_law_made, d_law, d_DotError_i, d_BadPart_i]
def faL : List He.Fa := [.glo "greatest", .glo "lowest", .glo "_law_bag", .glo "_law_pull", .glo "_law_of", .glo "_law_like", .glo "_law_common", .glo "_law_low", .glo "_law_over", .glo "_law_made", .glo "law", .free "LookupError", .free "ValueError", .free "abs", .free "all", .free "bool", .free "dict", .free "int", .free "isinstance", .free "len", .free "list", .free "range", .free "tuple", .glo "DotError", .glo "BadPart"]
def exK (K : PySem.W.Frag) : Bool := allB [vveB K, clsB K "DotError" [], clsB K "BadPart" ["word"], exmB K "BadPart" "BadPart" true, kitIB K "BadPart" (.ref (He.ga K "DotError")) true, kitIB K "BadPart" (.type "LookupError") false, kitIB K "BadPart" (.type "ValueError") true]
abbrev R : PySem.W.OpenRow := PySem.W.OpenLaw.row PySem.Challenge.rw_dotmoor_k01_parts_in_lowest_terms
abbrev hk : PySem.W.Hook := hookY 6 faL fnL exK
def ob (s : PySem.W.SharedT) : AlY := obsY 6 faL fnL exK (HandSHeadRun.getT s)
theorem ob_eq (s : PySem.W.SharedT) : ob s = hk.obs s.abs := obsY_eq (HandSHeadRun.getT_eq s)
set_option maxHeartbeats 0 in
theorem run (w : World) : HandSHeadRun.RunEq R (PySem.W.view R.prog [15]) hk ob 1500 ["DotError", "BadPart", "greatest", "lowest", "_law_bag", "_law_pull", "_law_of", "_law_like", "_law_common", "_law_low", "_law_over", "_law_made"] w := by
  intro os
  kernel_rfl
theorem facts {P : Program} {w : World} {K : PySem.W.Frag} {h : Heap} {mg : Str → Option Value} {f : Addr} (X : K.In h) (G : h.Ns mainGlobals mg) (hfa : mg ("law" : Str) = some (.ref f)) (c0 : SaysY faL fnL exK K) :
    ∃ fd : FuncData, (∀ (s : Shared) (v : Value), BindsTo s fd ⟨[v], []⟩ [("_law_script", v)]) ∧ ∀ base : Heap, K.In base → base.Ns mainGlobals mg → FnOk P w K mg base CX0 9 f fd ["_law_script"] (spD K c_law_k01) := by
  have c : He.SaysD faL fnL K := c0.c
  have cx : allB [vveB K, clsB K "DotError" [], clsB K "BadPart" ["word"], exmB K "BadPart" "BadPart" true, kitIB K "BadPart" (.ref (He.ga K "DotError")) true, kitIB K "BadPart" (.type "LookupError") false, kitIB K "BadPart" (.type "ValueError") true] = true := c0.x
  have B : Bf mg := ⟨He.free_ok X G (c.fact 11 (f := .free "LookupError") rfl), He.free_ok X G (c.fact 12 (f := .free "ValueError") rfl), He.free_ok X G (c.fact 13 (f := .free "abs") rfl), He.free_ok X G (c.fact 14 (f := .free "all") rfl), He.free_ok X G (c.fact 15 (f := .free "bool") rfl), He.free_ok X G (c.fact 16 (f := .free "dict") rfl), He.free_ok X G (c.fact 17 (f := .free "int") rfl), He.free_ok X G (c.fact 18 (f := .free "isinstance") rfl), He.free_ok X G (c.fact 19 (f := .free "len") rfl), He.free_ok X G (c.fact 20 (f := .free "list") rfl), He.free_ok X G (c.fact 21 (f := .free "range") rfl), He.free_ok X G (c.fact 22 (f := .free "tuple") rfl)⟩
  obtain ⟨fd_greatest, F_greatest⟩ := c.def_ 0 (d := d_greatest) rfl
  obtain ⟨fd_lowest, F_lowest⟩ := c.def_ 1 (d := d_lowest) rfl
  obtain ⟨fd_law_bag, F_law_bag⟩ := c.def_ 2 (d := d_law_bag) rfl
  obtain ⟨fd_law_pull, F_law_pull⟩ := c.def_ 3 (d := d_law_pull) rfl
  obtain ⟨fd_law_of, F_law_of⟩ := c.def_ 4 (d := d_law_of) rfl
  obtain ⟨fd_law_like, F_law_like⟩ := c.def_ 5 (d := d_law_like) rfl
  obtain ⟨fd_law_common, F_law_common⟩ := c.def_ 6 (d := d_law_common) rfl
  obtain ⟨fd_law_low, F_law_low⟩ := c.def_ 7 (d := d_law_low) rfl
  obtain ⟨fd_law_over, F_law_over⟩ := c.def_ 8 (d := d_law_over) rfl
  obtain ⟨fd_law_made, F_law_made⟩ := c.def_ 9 (d := d_law_made) rfl
  obtain ⟨fd_law, F_law⟩ := c.def_ 10 (d := d_law) rfl
  have M_DotError : mg "DotError" = some (.ref (He.ga K "DotError")) := He.glo_ok X G (c.fact 23 (f := .glo "DotError") rfl)
  have D_DotError := clsB_ok (allB_at cx 1)
  have M_BadPart : mg "BadPart" = some (.ref (He.ga K "BadPart")) := He.glo_ok X G (c.fact 24 (f := .glo "BadPart") rfl)
  have D_BadPart := clsB_ok (allB_at cx 2)
  obtain ⟨fd_DotError_i, F_DotError_i⟩ := c.def_ 11 (d := d_DotError_i) rfl
  obtain ⟨fd_BadPart_i, F_BadPart_i⟩ := c.def_ 12 (d := d_BadPart_i) rfl
  have e := hfa.symm.trans (He.glo_ok X G (c.fact 10 (f := .glo "law") rfl))
  cases e
  have bl := FunD.bindsA (ps := ["_law_script"]) F_law fun _ _ _ _ _ _ us hl => match us, hl with | [_], _ => rfl
  refine ⟨fd_law, fun s v => bl s [v] rfl, fun base _ _ => ?_⟩
  have b_DotError_i : Binds K fd_DotError_i ["self", "word"] [] := FunD.bindsN F_DotError_i fun _ _ _ _ _ _ us hl => match us, hl with | [_, _], _ => rfl
  have O_DotError_i := ok_DotError_i (P := P) (w := w) (base := base) (mg := mg) B.b_ValueError (vveB_ok (allB_at cx 0)) F_DotError_i
  have b_BadPart_i : Binds K fd_BadPart_i ["self"] [] := FunD.bindsN F_BadPart_i fun _ _ _ _ _ _ us hl => match us, hl with | [_], _ => rfl
  have O_BadPart_i := ok_BadPart_i (P := P) (w := w) (base := base) M_DotError D_DotError.ini O_DotError_i b_DotError_i F_BadPart_i
  have E_BadPart : Rs0 P w K mg base "BadPart" := ⟨_, _, ⟨M_BadPart, D_BadPart.ox, D_BadPart.ini, D_BadPart.no _ (by decide)⟩, O_BadPart_i, b_BadPart_i⟩
  have C_BadPart : Ct K mg "BadPart" [] ["word"] := ⟨M_BadPart, D_BadPart, exmB_ok (allB_at cx 3), fun m hm => by simp at hm⟩
  have I_BadPart_DotError := kitIB_ok (allB_at cx 4)
  have I_BadPart_LookupError := kitIB_ok (allB_at cx 5)
  have I_BadPart_ValueError := kitIB_ok (allB_at cx 6)
  have O_law_bag := ok_law_bag (P := P) (w := w) (base := base) B  F_law_bag
  have G_law_bag : Gd P w K mg base "_law_bag" 1 [] bagD := mkGd (He.glo_ok X G (c.fact 2 (f := .glo "_law_bag") rfl)) F_law_bag.kp O_law_bag ⟨[], .nil, FunD.bindsN F_law_bag fun _ _ _ _ _ _ us hl => match us, hl with | [_], _ => rfl⟩ (fun _ => .nil)
  have O_law_pull := ok_law_pull (P := P) (w := w) (base := base) B  F_law_pull
  have G_law_pull : Gd P w K mg base "_law_pull" 1 [] pullD := mkGd (He.glo_ok X G (c.fact 3 (f := .glo "_law_pull") rfl)) F_law_pull.kp O_law_pull ⟨[], .nil, FunD.bindsN F_law_pull fun _ _ _ _ _ _ us hl => match us, hl with | [_, _], _ => rfl⟩ (fun _ => .nil)
  have O_greatest := ok_greatest (P := P) (w := w) (base := base) B   F_greatest
  have G_greatest : Gd P w K mg base "greatest" 1 [] c_greatest := mkGd (He.glo_ok X G (c.fact 0 (f := .glo "greatest") rfl)) F_greatest.kp O_greatest ⟨[], .nil, FunD.bindsN F_greatest fun _ _ _ _ _ _ us hl => match us, hl with | [_, _], _ => rfl⟩ (fun _ => .nil)
  have O_lowest := ok_lowest (P := P) (w := w) (base := base) B G_greatest E_BadPart F_lowest
  have G_lowest : GdX P w K mg base "lowest" 4 [] c_lowestX := mkGdX (He.glo_ok X G (c.fact 1 (f := .glo "lowest") rfl)) F_lowest.kp O_lowest (FunD.binds1 F_lowest 2 1 (fun z => nomatch z) (by rfl) fun T kV doc pm an cdv ct us its hu hi => match us, its, hu, hi with | [_, _], [_], _, _ => ⟨_, rfl, rfl⟩) (fun _ => .nil)
  have G_lowest_d1 : GdX P w K mg base "lowest" 4 [.int 1] c_lowestX := mkGdX (He.glo_ok X G (c.fact 1 (f := .glo "lowest") rfl)) F_lowest.kp O_lowest (FunD.binds1 F_lowest 1 0 (fun z => nomatch z) (by rfl) fun T kV doc pm an cdv ct us its hu hi => match us, its, hu, hi with | [_], [_], _, _ => ⟨_, rfl, rfl⟩) (fun _ => .cons (.int _) (.nil))
  have O_law_of := ok_law_of (P := P) (w := w) (base := base) B G_law_pull  F_law_of
  have G_law_of : Gd P w K mg base "_law_of" 2 [] c_law_of := mkGd (He.glo_ok X G (c.fact 4 (f := .glo "_law_of") rfl)) F_law_of.kp O_law_of ⟨[], .nil, FunD.bindsN F_law_of fun _ _ _ _ _ _ us hl => match us, hl with | [_, _], _ => rfl⟩ (fun _ => .nil)
  have b_law_like : Binds K fd_law_like ["_law_found", "_law_due"] [] := FunD.bindsN F_law_like fun _ _ _ _ _ _ us hl => match us, hl with | [_, _], _ => rfl
  have O_law_like := ok_law_like (P := P) (w := w) (base := base) B (He.glo_ok X G (c.fact 5 (f := .glo "_law_like") rfl)) b_law_like  F_law_like 8
  have G_law_like : Gd P w K mg base "_law_like" 8 [] (c_law_like 8) := mkGd (He.glo_ok X G (c.fact 5 (f := .glo "_law_like") rfl)) F_law_like.kp O_law_like ⟨[], .nil, FunD.bindsN F_law_like fun _ _ _ _ _ _ us hl => match us, hl with | [_, _], _ => rfl⟩ (fun _ => .nil)
  have O_law_common := ok_law_common (P := P) (w := w) (base := base) B   F_law_common
  have G_law_common : Gd P w K mg base "_law_common" 1 [] c_greatest := mkGd (He.glo_ok X G (c.fact 6 (f := .glo "_law_common") rfl)) F_law_common.kp O_law_common ⟨[], .nil, FunD.bindsN F_law_common fun _ _ _ _ _ _ us hl => match us, hl with | [_, _], _ => rfl⟩ (fun _ => .nil)
  have O_law_low := ok_law_low (P := P) (w := w) (base := base) B G_law_common  F_law_low
  have G_law_low : Gd P w K mg base "_law_low" 2 [] c_law_low := mkGd (He.glo_ok X G (c.fact 7 (f := .glo "_law_low") rfl)) F_law_low.kp O_law_low ⟨[], .nil, FunD.bindsN F_law_low fun _ _ _ _ _ _ us hl => match us, hl with | [_, _], _ => rfl⟩ (fun _ => .nil)
  have O_law_over := ok_law_over (P := P) (w := w) (base := base) B G_law_of G_law_pull  F_law_over
  have G_law_over : Gd P w K mg base "_law_over" 3 [] c_law_over := mkGd (He.glo_ok X G (c.fact 8 (f := .glo "_law_over") rfl)) F_law_over.kp O_law_over ⟨[], .nil, FunD.bindsN F_law_over fun _ _ _ _ _ _ us hl => match us, hl with | [_], _ => rfl⟩ (fun _ => .nil)
  have O_law_made := ok_law_made (P := P) (w := w) (base := base) B G_lowest C_BadPart I_BadPart_LookupError I_BadPart_ValueError I_BadPart_DotError M_DotError F_law_made
  have G_law_made : Gd P w K mg base "_law_made" 5 [] c_law_made := mkGd (He.glo_ok X G (c.fact 9 (f := .glo "_law_made") rfl)) F_law_made.kp O_law_made ⟨[], .nil, FunD.bindsN F_law_made fun _ _ _ _ _ _ us hl => match us, hl with | [_, _], _ => rfl⟩ (fun _ => .nil)
  exact ok_law B G_law_bag G_law_over G_law_pull G_law_low G_law_made G_law_like G_lowest_d1  F_law
end K01

namespace DV
open PySem PySem.Spec PyProof.Rows L2
local macro_rules | `(tactic| walk_at "dv") => `(tactic| simp (config := { failIfUnchanged := false, implicitDefEqProofs := false }) only [↓k_for_q, ↓e_for_n, ↓e_for_c, ↓k_sAppend1_q, ↓k_sAppend_q, ↓k_sRetOwn_q, ↓k_sPar2_q, ↓k_sPar_q, ↓k_sPar33_q, ↓k_sPar3_q, ↓k_some_q, ↓k_asI_q, ↓k_asS_q, ↓k_rng1_q, ↓k_one_q, ↓k_rng22_q, ↓k_rng21_q, ↓k_rng2_q, ↓k_two_q, ↓k_non_q, ↓k_no_q, ↓k_sSet_q, ↓k_sAsg_q, ↓k_sAsg2_q, ↓k_sIf_q, ↓k_sDrop_q, ↓k_sOwn_q, ↓k_sFor_q, ↓k_gs_q, ↓k_dOp2_q, ↓k_dOp_q, ↓k_dCh4_q, ↓k_dCh3_q, ↓k_dCh2_q, ↓k_dCh1_q, ↓k_dUn_q, ↓k_dTest_q, ↓k_dAnd_q, ↓k_dOr_q, ↓k_dNot_q, ↓k_dAndV_q, ↓k_dOrV_q, ↓k_dIf_q, ↓k_dCons2_q, ↓k_dCons_q, ↓k_dTup_q, ↓k_dLst_q, ↓k_dCall_q, ↓k_dIsi_q, ↓k_dIsi2_q, ↓k_dSl3_q, ↓k_dSl2_q, ↓k_dSl_q, ↓k_dRev_q, ↓k_dLc_q, ↓k_dB_q, ↓chB_b, ↓tsB_b, ↓dVar_s, ↓ownL_o, ↓ownD_o, ↓roL_l, ↓e_sAppend, ↓e_sRetOwn, ↓two_2, ↓three_3, ↓e_sPar, ↓e_sPar3, ↓asI_i, ↓e_dPart, ↓asS_l, ↓asS_t, ↓e_iSeq, ↓one_1, ↓e_iRng1D, ↓e_iRng2D, ↓wipeD_n, ↓wipeD_c, ↓frz_0, ↓frz_0v, ↓frz_s, ↓e_fnD, ↓e_sSeq, ↓e_sNext, ↓e_sBreak, ↓e_sCont, ↓e_sSet, ↓e_sAsg, ↓e_sAsg2, ↓e_sIf, ↓e_sRet, ↓e_sRetN, ↓e_sDrop, ↓e_sNever, ↓e_sOwn, ↓e_sFrz, ↓e_sFor, ↓e_gN, ↓e_gT_t, ↓e_gsNil_n, ↓e_gsCons_c, ↓e_dVar_0, ↓e_dVar_0t, ↓e_dC, ↓e_dOp, ↓e_dChain, ↓e_dUn, ↓e_dTest, ↓e_dAnd, ↓e_dOr, ↓e_dNot, ↓e_dAndV, ↓e_dOrV, ↓e_dIf, ↓e_dNil, ↓e_dCons, ↓e_dTup, ↓e_dLst, ↓e_dCall, ↓e_dB, ↓e_dIsi, ↓e_dIsi2, ↓e_dSl, ↓e_dRev, ↓e_dNo, ↓e_dYes, ↓e_dLc,
  ↓addD_ii, ↓addD_tt, ↓addD_ll, ↓subD_ii, ↓mulD_ii, ↓fdivD_ii, ↓modD_ii, ↓powD_10_9, ↓powD_10_6, ↓ltA_ii, ↓leA_ii, ↓gtA_ii, ↓geA_ii, ↓ltA_t2, ↓leA_t2, ↓gtA_t2, ↓geA_t2, ↓max2A_ii, ↓min2A_ii, ↓max2A_t2, ↓min2A_t2, ↓revD_l, ↓isNon_n, ↓isNon_t, ↓isNon_l, ↓notNon_n, ↓notNon_t, ↓isBD_bb, ↓negD_i, ↓notD_b, ↓absD_i, ↓intC_i, ↓intC_b, ↓lenD_l, ↓lenD_t, ↓listD_l, ↓listD_t, ↓tupleD_l, ↓tupleD_t, ↓allD_l, ↓anyD_l, ↓ixT0, ↓ixT1, ↓ixT2, ↓ixT3, ↓ixL0, ↓ixL1, ↓ixL2, ↓ixL3, ↓slD_l,
  eqD, neD, notInD, sl0, sl1, sl2, sl3, sl4, sl5, sl6, sl7, sl8, sl9, sl10, sl11, sl12, slt0, slt1, slt2, slt3, slt4, slt5, slt6, slt7, slt8, slt9, slt10, slt11, slt12, lay_i, lay_b, lay_n, lay_t0, lay_l0, lay_t2, lay_t4, eqb_ii, eqb_bb, eqb_ss, eqb_nn, eqb_tt, eqb_ll, eqbs_nn, eqbs_cc, eqbs_nc, eqbs_cn, tyOk_n, tyOk_b, tyOk_i, tyOk_s, tyOk_t, tyOk_l, isi_n, isi_b, isi_i, isi_s, isi_t, isi_l,
  List.map_cons, List.map_nil, List.cons_append, List.nil_append, List.append_nil, List.append_assoc, List.length_cons, List.length_nil, List.getElem?_cons_zero, List.getElem?_cons_succ, List.set_cons_zero, List.set_cons_succ, List.replicate, Nat.reduceAdd, Nat.reduceSub, Nat.zero_add, Nat.reduceLeDiff, Nat.reduceEqDiff,
  if_true, if_false, true_and, and_true, and_self, Bool.not_true, Bool.not_false, Bool.false_eq_true, Bool.and_true, Bool.true_and, Bool.or_false, Bool.false_or, Bool.or_true, Bool.true_or, decide_eq_true_eq, decide_true, decide_false, beq_self_eq_true, beq_iff_eq, String.reduceEq, reduceIte, reduceCtorEq])
/-! ### the small defs of program and laws -/
theorem abs_if (a : Int) : (if a < 0 then -a else a) = (a.natAbs : Int) := by split <;> omega
theorem greatest_ok {Q : D → Prop} {a b : Int} (h : Q (.int (Int.gcd a b : Nat))) : c_greatest [.int a, .int b] Q := by
  unfold c_greatest
  walk_at "dv"
  rw [abs_if, abs_if]
  refine ⟨fun m ρ => ∃ x y : Nat, ρ = [.v (.int (x : Int)), .v (.int (y : Int))] ∧ m = y ∧ Nat.gcd x y = Nat.gcd a.natAbs b.natAbs, ⟨_, _, _, rfl, rfl, rfl⟩, ?_⟩
  rintro m ρ ⟨x, y, rfl, rfl, hg⟩
  walk_at "dv"
  by_cases hy : 0 < m
  · have hy' : (0 : Int) < (m : Int) := by omega
    rw [if_pos hy']
    refine ⟨by omega, x % m, Nat.mod_lt _ hy, m, x % m, ?_, rfl, ?_⟩
    · rw [Int.fmod_eq_emod_of_nonneg _ (by omega)]; rfl
    · rw [← hg, Nat.gcd_comm m, ← Nat.gcd_rec, Nat.gcd_comm]
  · have e : m = 0 := by omega
    subst e
    rw [if_neg (by simp)]
    rw [Nat.gcd_zero_right] at hg
    have e2 : (x : Int) = (Int.gcd a b : Nat) := by rw [hg]; rfl
    rw [e2]; exact h
/-- the part in lowest terms -/
def lowD (o u : Int) : D := .tup [.int (o.fdiv (if u < 0 then -(Int.gcd o u : Nat) else (Int.gcd o u : Nat))), .int (u.fdiv (if u < 0 then -(Int.gcd o u : Nat) else (Int.gcd o u : Nat)))]
theorem gcd_small {o u : Int} (hu : u ≠ 0) : 0 < Int.gcd o u ∧ Int.gcd o u ≤ u.natAbs :=
  ⟨Int.gcd_pos_of_ne_zero_right _ hu, Nat.le_of_dvd (by omega) (Nat.gcd_dvd_right _ _)⟩
theorem lowest_ok {Q : D → Prop} {o u : Int} (hu : u ≠ 0) (hb : u.natAbs < 1461501637330902918203684832716283019655932542976) (h : Q (lowD o u)) : c_lowest [.int o, .int u] Q := by
  unfold c_lowest
  walk_at "dv"
  rw [if_neg hu]
  have hg := gcd_small (o := o) hu
  refine greatest_ok ?_
  walk_at "dv"
  unfold lowD at h
  by_cases hn : u < 0
  · rw [if_pos hn] at h ⊢
    walk_at "dv"
    exact ⟨divOk (by omega) (by omega), divOk (by omega) (by omega), h⟩
  · rw [if_neg hn] at h ⊢
    walk_at "dv"
    exact ⟨divOk (by omega) (by omega), divOk (by omega) (by omega), h⟩
theorem law_low_ok {Q : D → Prop} {o u : Int} (hu : u ≠ 0) (hb : u.natAbs < 1461501637330902918203684832716283019655932542976) (h : Q (lowD o u)) : c_law_low [.int o, .int u] Q := by
  unfold c_law_low
  walk_at "dv"
  have hg := gcd_small (o := o) hu
  refine greatest_ok ?_
  walk_at "dv"
  unfold lowD at h
  by_cases hn : u < 0
  · rw [if_pos hn] at h ⊢
    walk_at "dv"
    rw [show (0 : Int) - (Int.gcd o u : Nat) = -(Int.gcd o u : Nat) by omega]
    exact ⟨divOk (by omega) (by omega), divOk (by omega) (by omega), h⟩
  · rw [if_neg hn] at h ⊢
    walk_at "dv"
    exact ⟨divOk (by omega) (by omega), divOk (by omega) (by omega), h⟩
theorem law_of_ok {Q : D → Prop} {d0 : D} {ds : List D} (h1 : ds.length < 1000000) (h : ∀ d ∈ d0 :: ds, Q d) : c_law_of [.bag, .lst (d0 :: ds)] Q := by
  unfold c_law_of
  walk_at "dv"
  exact pull_ok (by omega) (by omega) fun r r0 r1 => ix_all r0 (by rw [List.length_cons]; omega) h
theorem law_over_ok {Q : D → Prop} (h : ∀ r : Int, -1000000000 < r → r < 1000000000 → Q (.int r)) : c_law_over [.bag] Q := by
  unfold c_law_over
  walk_at "dv"
  refine law_of_ok (by simp) fun d hd => ?_
  simp only [List.mem_cons, List.not_mem_nil, or_false] at hd
  have key : ∀ f : Int, 0 < f → f ≤ 1000000000 → (mulD (.int 2) (.int f) fun x => subD x (.int 1) fun x => pullD [.bag, x] fun x => subD x (.int f) fun x => addD x (.int 1) Q) := fun f f0 f1 => by
    walk_at "dv"
    refine ⟨mulOk_l (by decide) (by decide), pull_ok (by omega) (by omega) fun r r0 r1 => ?_⟩
    walk_at "dv"
    exact h _ (by omega) (by omega)
  rcases hd with rfl | rfl | rfl | rfl
  · exact key 3 (by decide) (by decide)
  · exact key 12 (by decide) (by decide)
  · exact key 100 (by decide) (by decide)
  · exact key 1000000000 (by decide) (by decide)
theorem like_ok : ∀ (n : Nat) (d : D) (Q : D → Prop), Lk n d → Q (.bl true) → c_law_like n [d, d] Q := by
  intro n
  induction n with
  | zero => intro d Q h; exact h.elim
  | succ n ih =>
    intro d Q h q
    unfold c_law_like t_law_like
    have leaf : d.tyOk = true → d.lay = true → D.eqb d d = true → isiD "dict" d = false → isiD "tuple" d = false → isiD "list" d = false → (fnD 3 2 (t_law_like (c_law_like n))) [d, d] Q := fun h0 h1 h2 h3 h4 h5 => by
      unfold t_law_like
      walk_at "dv"
      simp only [h0, h1, h2, h3, h4, h5, beq_self_eq_true]
      walk_at "dv"
      exact q
    have seq : ∀ ds : List D, ds.length ≤ 1000000 → (∀ d ∈ ds, Lk n d) → ∀ mk : List D → D, (mk = .tup ∨ mk = .lst) → (fnD 3 2 (t_law_like (c_law_like n))) [mk ds, mk ds] Q := fun ds hl hd mk hm => by
      have body : ∀ sl : Slot, sl = .v (mk ds) → lcD (gN 2) dYes (dCall (c_law_like n) [] (dCons (dOp ixD (dVar 0) (dVar 2)) (dCons (dOp ixD (dVar 1) (dVar 2)) dNil))) [sl, sl, Slot.un] (rngD 0 ((ds.length : Int)).toNat) [] fun x => allD [x] Q := fun sl hs => by
        subst hs
        refine lcD_map (fun _ => .bl true) _ _ _ (fun d hk Q1 q1 => ?_) ?_ ?_
        · obtain ⟨k, hk, rfl⟩ := mem_rng hk
          have hk' : k < ds.length := by omega
          walk_at "dv"
          rw [show (0 : Int) + (k : Int) = ((k : Nat) : Int) by omega]
          rcases hm with rfl | rfl
          · exact ix_natT hk' (ix_natT hk' (ih _ _ (hd _ (List.getElem_mem _)) q1))
          · exact ix_nat hk' (ix_nat hk' (ih _ _ (hd _ (List.getElem_mem _)) q1))
        · have e : sizeLine = 16777216 := sizeLine_eq
          simp [rngD]
          omega
        · walk_at "dv"
          have e1 : ((rngD 0 ((ds.length : Int)).toNat).map fun _ => D.bl true).all isB = true := by simp [isB]
          have e2 : ((rngD 0 ((ds.length : Int)).toNat).map fun _ => D.bl true).all isT = true := by simp [isT]
          rw [e1, e2]
          exact ⟨rfl, q⟩
      rcases hm with rfl | rfl
      · unfold t_law_like
        walk_at "dv"
        exact ⟨⟨by omega, by omega⟩, body _ rfl⟩
      · unfold t_law_like
        walk_at "dv"
        exact ⟨⟨by omega, by omega⟩, body _ rfl⟩
    cases d with
    | non => exact leaf rfl rfl (by simp [D.eqb]) rfl rfl rfl
    | bl b => exact leaf rfl rfl (by simp [D.eqb]) rfl rfl rfl
    | int i => exact leaf rfl rfl (by simp [D.eqb]) rfl rfl rfl
    | str x =>
      refine leaf rfl ?_ (by simp [D.eqb]) rfl rfl rfl
      have : PyData.strOk x = true := h
      simp [D.lay, D.flatOk, SeqAt.shaped, D.toP, PyData.canLay0, PyData.depth, this]
    | tup ds => exact seq ds h.1 h.2 .tup (.inl rfl)
    | lst ds => exact seq ds h.1 h.2 .lst (.inr rfl)
    | dic _ => exact h.elim
    | bag => exact h.elim
    | scr => exact h.elim
/-- a part: over and under, small -/
def PartOk (d : D) : Prop := ∃ n u : Int, d = .tup [.int n, .int u] ∧ n.natAbs < 1000000000 ∧ 0 < u ∧ u < 1000000000
theorem natAbs_fdiv_le {a : Int} {g : Nat} (hg : 0 < g) (hd : (g : Int) ∣ a) : (a.fdiv g).natAbs ≤ a.natAbs := by
  rw [Int.fdiv_eq_ediv_of_nonneg _ (by omega)]
  obtain ⟨k, rfl⟩ := hd
  rw [Int.mul_ediv_cancel_left _ (by omega), Int.natAbs_mul]
  have : 1 ≤ (g : Int).natAbs := by omega
  exact Nat.le_mul_of_pos_left _ this
theorem mul_pos_iff' {g k : Int} (hg : 0 < g) : (0 < g * k ↔ 0 < k) ∧ (g * k < 0 ↔ k < 0) := by
  have h1 : 0 < k → 0 < g * k := fun h => Int.mul_pos hg h
  have h2 : k < 0 → g * k < 0 := fun h => Int.mul_neg_of_pos_of_neg hg h
  have h3 : k = 0 → g * k = 0 := fun h => by rw [h, Int.mul_zero]
  omega
theorem fdiv_pos {a : Int} {g : Nat} (hg : 0 < g) (hd : (g : Int) ∣ a) : (0 < a.fdiv g ↔ 0 < a) ∧ (a.fdiv g < 0 ↔ a < 0) := by
  rw [Int.fdiv_eq_ediv_of_nonneg _ (by omega)]
  obtain ⟨k, rfl⟩ := hd
  rw [Int.mul_ediv_cancel_left _ (by omega)]
  have := mul_pos_iff' (g := (g : Int)) (k := k) (by omega)
  exact ⟨this.1.symm, this.2.symm⟩
theorem lowD_pos {o u : Int} (hu : 0 < u) : lowD o u = .tup [.int (o.fdiv (Int.gcd o u : Nat)), .int (u.fdiv (Int.gcd o u : Nat))] := by
  unfold lowD
  rw [if_neg (by omega)]
theorem lowD_part {o u : Int} (h1 : o.natAbs < 1000000000) (h2 : 0 < u) (h3 : u < 1000000000) : PartOk (lowD o u) := by
  rw [lowD_pos h2]
  have hg := gcd_small (o := o) (u := u) (by omega)
  have d1 : ((Int.gcd o u : Nat) : Int) ∣ o := Int.gcd_dvd_left ..
  have d2 : ((Int.gcd o u : Nat) : Int) ∣ u := Int.gcd_dvd_right ..
  have e1 := natAbs_fdiv_le hg.1 d1
  have e2 := natAbs_fdiv_le hg.1 d2
  have e3 := (fdiv_pos hg.1 d2).1.mpr h2
  exact ⟨_, _, rfl, by omega, e3, by omega⟩
theorem law_part_ok {Q : D → Prop} (h : ∀ d, PartOk d → Q d) : c_law_part [.bag] Q := by
  unfold c_law_part
  walk_at "dv"
  refine law_over_ok fun o o0 o1 => ?_
  have key : ∀ f : Int, 0 < f → f < 1000000000 → (pullD [.bag, .int f] fun x => addD (.int 1) x fun x => c_law_low [.int o, x] Q) := fun f f0 f1 => by
    refine pull_ok (by omega) (by omega) fun r r0 r1 => ?_
    walk_at "dv"
    exact law_low_ok (by omega) (by omega) (h _ (lowD_part (by omega) (by omega) (by omega)))
  walk_at "dv"
  refine law_of_ok (by simp) fun d hd => ?_
  simp only [List.mem_cons, List.not_mem_nil, or_false] at hd
  rcases hd with rfl | rfl | rfl | rfl
  · exact key 2 (by decide) (by decide)
  · exact key 6 (by decide) (by decide)
  · exact key 40 (by decide) (by decide)
  · exact key _ (by decide) (by decide)
end DV

namespace DV
open PySem PySem.Spec PyProof.Rows L2
local macro_rules | `(tactic| walk_at "dv") => `(tactic| simp (config := { failIfUnchanged := false, implicitDefEqProofs := false }) only [↓k_for_q, ↓e_for_n, ↓e_for_c, ↓k_sAppend1_q, ↓k_sAppend_q, ↓k_sRetOwn_q, ↓k_sPar2_q, ↓k_sPar_q, ↓k_sPar33_q, ↓k_sPar3_q, ↓k_some_q, ↓k_asI_q, ↓k_asS_q, ↓k_rng1_q, ↓k_one_q, ↓k_rng22_q, ↓k_rng21_q, ↓k_rng2_q, ↓k_two_q, ↓k_non_q, ↓k_no_q, ↓k_sSet_q, ↓k_sAsg_q, ↓k_sAsg2_q, ↓k_sIf_q, ↓k_sDrop_q, ↓k_sOwn_q, ↓k_sFor_q, ↓k_gs_q, ↓k_dOp2_q, ↓k_dOp_q, ↓k_dCh4_q, ↓k_dCh3_q, ↓k_dCh2_q, ↓k_dCh1_q, ↓k_dUn_q, ↓k_dTest_q, ↓k_dAnd_q, ↓k_dOr_q, ↓k_dNot_q, ↓k_dAndV_q, ↓k_dOrV_q, ↓k_dIf_q, ↓k_dCons2_q, ↓k_dCons_q, ↓k_dTup_q, ↓k_dLst_q, ↓k_dCall_q, ↓k_dIsi_q, ↓k_dIsi2_q, ↓k_dSl3_q, ↓k_dSl2_q, ↓k_dSl_q, ↓k_dRev_q, ↓k_dLc_q, ↓k_dB_q, ↓chB_b, ↓tsB_b, ↓dVar_s, ↓ownL_o, ↓ownD_o, ↓roL_l, ↓e_sAppend, ↓e_sRetOwn, ↓two_2, ↓three_3, ↓e_sPar, ↓e_sPar3, ↓asI_i, ↓e_dPart, ↓asS_l, ↓asS_t, ↓e_iSeq, ↓one_1, ↓e_iRng1D, ↓e_iRng2D, ↓wipeD_n, ↓wipeD_c, ↓frz_0, ↓frz_0v, ↓frz_s, ↓e_fnD, ↓e_sSeq, ↓e_sNext, ↓e_sBreak, ↓e_sCont, ↓e_sSet, ↓e_sAsg, ↓e_sAsg2, ↓e_sIf, ↓e_sRet, ↓e_sRetN, ↓e_sDrop, ↓e_sNever, ↓e_sOwn, ↓e_sFrz, ↓e_sFor, ↓e_gN, ↓e_gT_t, ↓e_gsNil_n, ↓e_gsCons_c, ↓e_dVar_0, ↓e_dVar_0t, ↓e_dC, ↓e_dOp, ↓e_dChain, ↓e_dUn, ↓e_dTest, ↓e_dAnd, ↓e_dOr, ↓e_dNot, ↓e_dAndV, ↓e_dOrV, ↓e_dIf, ↓e_dNil, ↓e_dCons, ↓e_dTup, ↓e_dLst, ↓e_dCall, ↓e_dB, ↓e_dIsi, ↓e_dIsi2, ↓e_dSl, ↓e_dRev, ↓e_dNo, ↓e_dYes, ↓e_dLc,
  ↓addD_ii, ↓addD_tt, ↓addD_ll, ↓subD_ii, ↓mulD_ii, ↓fdivD_ii, ↓modD_ii, ↓powD_10_9, ↓powD_10_6, ↓ltA_ii, ↓leA_ii, ↓gtA_ii, ↓geA_ii, ↓ltA_t2, ↓leA_t2, ↓gtA_t2, ↓geA_t2, ↓max2A_ii, ↓min2A_ii, ↓max2A_t2, ↓min2A_t2, ↓revD_l, ↓isNon_n, ↓isNon_t, ↓isNon_l, ↓notNon_n, ↓notNon_t, ↓isBD_bb, ↓negD_i, ↓notD_b, ↓absD_i, ↓intC_i, ↓intC_b, ↓lenD_l, ↓lenD_t, ↓listD_l, ↓listD_t, ↓tupleD_l, ↓tupleD_t, ↓allD_l, ↓anyD_l, ↓ixT0, ↓ixT1, ↓ixT2, ↓ixT3, ↓ixL0, ↓ixL1, ↓ixL2, ↓ixL3, ↓slD_l,
  eqD, neD, notInD, sl0, sl1, sl2, sl3, sl4, sl5, sl6, sl7, sl8, sl9, sl10, sl11, sl12, slt0, slt1, slt2, slt3, slt4, slt5, slt6, slt7, slt8, slt9, slt10, slt11, slt12, lay_i, lay_b, lay_n, lay_t0, lay_l0, lay_t2, lay_t4, eqb_ii, eqb_bb, eqb_ss, eqb_nn, eqb_tt, eqb_ll, eqbs_nn, eqbs_cc, eqbs_nc, eqbs_cn, tyOk_n, tyOk_b, tyOk_i, tyOk_s, tyOk_t, tyOk_l, isi_n, isi_b, isi_i, isi_s, isi_t, isi_l,
  List.map_cons, List.map_nil, List.cons_append, List.nil_append, List.append_nil, List.append_assoc, List.length_cons, List.length_nil, List.getElem?_cons_zero, List.getElem?_cons_succ, List.set_cons_zero, List.set_cons_succ, List.replicate, Nat.reduceAdd, Nat.reduceSub, Nat.zero_add, Nat.reduceLeDiff, Nat.reduceEqDiff,
  if_true, if_false, true_and, and_true, and_self, Bool.not_true, Bool.not_false, Bool.false_eq_true, Bool.and_true, Bool.true_and, Bool.or_false, Bool.false_or, Bool.or_true, Bool.true_or, decide_eq_true_eq, decide_true, decide_false, beq_self_eq_true, beq_iff_eq, String.reduceEq, reduceIte, reduceCtorEq])
/-! ### spots and turns -/
theorem lcD_all {g : DG} {te : DE} {ρ : List Slot} (P : D → Prop) : ∀ (ds acc : List D) (Q : D → Prop), (∀ d ∈ ds, ∀ Q1 : D → Prop, (∀ y, P y → Q1 y) → g d ρ fun ρ2 => te ρ2 Q1) → acc.length + ds.length ≤ sizeLine → (∀ y ∈ acc, P y) →
    (∀ ys : List D, ys.length = acc.length + ds.length → (∀ y ∈ ys, P y) → Q (.lst ys)) → lcD g dYes te ρ ds acc Q
  | [], acc, Q, _, _, ha, q => q acc rfl ha
  | d :: ds, acc, Q, h, hl, ha, q => by
    have hl' : acc.length + (ds.length + 1) ≤ sizeLine := hl
    refine h d List.mem_cons_self (fun y => acc.length < sizeLine ∧ lcD g dYes te ρ ds (acc ++ [y]) Q) fun y hy => ⟨by omega, ?_⟩
    refine lcD_all P ds (acc ++ [y]) Q (fun d hd => h d (List.mem_cons_of_mem _ hd)) (by rw [List.length_append]; show acc.length + 1 + ds.length ≤ sizeLine; omega) (fun z hz => (List.mem_append.mp hz).elim (ha z) fun e => by rw [List.mem_singleton] at e; rw [e]; exact hy) fun ys e => q ys ?_
    rw [e, List.length_append, List.length_cons]
    show acc.length + 1 + ds.length = acc.length + (ds.length + 1)
    omega
theorem rng_len {lo : Int} {n : Nat} : (rngD lo n).length = n := by simp [rngD]
def SpotOk (d : D) : Prop := ∃ x y : Int, d = .tup [.int x, .int y] ∧ -40 ≤ x ∧ x ≤ 40 ∧ -40 ≤ y ∧ y ≤ 40
@[irreducible] def crs (ax ay bx b_y cx cy : Int) : Int := (bx - ax) * (cy - ay) - (b_y - ay) * (cx - ax)
@[irreducible] def sgn (i : Int) : Int := (if 0 < i then 1 else 0) - (if i < 0 then 1 else 0)
@[irreducible] def turn (ax ay bx b_y cx cy : Int) : Int := sgn (crs ax ay bx b_y cx cy)
theorem cross_ok {Q : D → Prop} {ax ay bx b_y cx cy : Int} (h1 : (bx - ax).natAbs < 1000000000) (h2 : (b_y - ay).natAbs < 1000000000) (h : Q (.int (crs ax ay bx b_y cx cy))) : c_cross [.tup [.int ax, .int ay], .tup [.int bx, .int b_y], .tup [.int cx, .int cy]] Q := by
  unfold c_cross
  walk_at "dv"
  unfold crs at h
  exact ⟨mulOk (by omega), mulOk (by omega), h⟩
theorem int_at {Q : D → Prop} {i j : Int} (h : Q (.int i)) (e : j = i) : Q (.int j) := e ▸ h
theorem bl_at {Q : D → Prop} {i j : Bool} (h : Q (.bl i)) (e : j = i) : Q (.bl j) := e ▸ h
theorem sign_ok {Q : D → Prop} {i : Int} (h : Q (.int (sgn i))) : c_sign [.int i] Q := by
  unfold c_sign
  walk_at "dv"
  refine int_at h ?_
  unfold sgn
  repeat' split
  all_goals omega
theorem turning_ok {Q : D → Prop} {ax ay bx b_y cx cy : Int} (h1 : (bx - ax).natAbs < 1000000000) (h2 : (b_y - ay).natAbs < 1000000000) (h : Q (.int (turn ax ay bx b_y cx cy))) : c_turning [.tup [.int ax, .int ay], .tup [.int bx, .int b_y], .tup [.int cx, .int cy]] Q := by
  unfold c_turning
  walk_at "dv"
  refine cross_ok h1 h2 ?_
  walk_at "dv"
  unfold turn at h
  exact sign_ok h
theorem law_side_ok {Q : D → Prop} {ax ay bx b_y cx cy : Int} (h1 : (bx - ax).natAbs < 1000000000) (h2 : (b_y - ay).natAbs < 1000000000) (h : Q (.int (turn ax ay bx b_y cx cy))) : c_law_side [.tup [.int ax, .int ay], .tup [.int bx, .int b_y], .tup [.int cx, .int cy]] Q := by
  unfold c_law_side
  walk_at "dv"
  refine cross_ok h1 h2 ?_
  unfold turn at h
  generalize crs ax ay bx b_y cx cy = i at h ⊢
  clear h1 h2
  walk_at "dv"
  refine int_at h ?_
  unfold sgn
  repeat' split
  all_goals omega
@[irreducible] def clp (i : Int) : Int := max (-40) (min 40 i)
theorem clp_b {i : Int} : -40 ≤ clp i ∧ clp i ≤ 40 := by unfold clp; omega
theorem law_clipped_ok {Q : D → Prop} {i : Int} (h : Q (.int (clp i))) : c_law_clipped [.int i] Q := by
  unfold c_law_clipped
  walk_at "dv"
  exact int_at h (by unfold clp; rfl)
theorem law_spot_ok {Q : D → Prop} {x y r : Int} (h0 : 0 ≤ r) (h1 : r < 1000000) (h : ∀ d, SpotOk d → Q d) : c_law_spot [.bag, .tup [.int x, .int y], .int r] Q := by
  unfold c_law_spot
  walk_at "dv"
  refine ⟨mulOk (by omega), pull_ok (by omega) (by omega) fun p p0 p1 => ?_⟩
  walk_at "dv"
  refine law_clipped_ok ?_
  walk_at "dv"
  refine ⟨mulOk (by omega), pull_ok (by omega) (by omega) fun q q0 q1 => ?_⟩
  walk_at "dv"
  refine law_clipped_ok ?_
  walk_at "dv"
  exact h _ ⟨_, _, rfl, clp_b.1, clp_b.2, clp_b.1, clp_b.2⟩
theorem law_base_ok {Q : D → Prop} (h : ∀ d, SpotOk d → Q d) : c_law_base [.bag] Q := by
  unfold c_law_base
  walk_at "dv"
  refine pull_ok (by decide) (by decide) fun p p0 p1 => ?_
  walk_at "dv"
  refine pull_ok (by decide) (by decide) fun q q0 q1 => ?_
  walk_at "dv"
  refine law_of_ok (by simp) fun d hd => h d ?_
  simp only [List.mem_cons, List.not_mem_nil, or_false] at hd
  rcases hd with rfl | rfl | rfl | rfl | rfl | rfl | rfl <;> exact ⟨_, _, rfl, by omega, by omega, by omega, by omega⟩
local macro_rules | `(tactic| walk_at "beq") => `(tactic| (first | (rw [decide_eq_decide]; omega) | exact (decide_eq_false (by omega)).symm | exact (decide_eq_true (by omega)).symm))
theorem is_spot_ok {Q : D → Prop} {x y : Int} (h : Q (.bl (decide ((-40 ≤ x ∧ x ≤ 40) ∧ (-40 ≤ y ∧ y ≤ 40))))) : c_is_spot [.tup [.int x, .int y]] Q := by
  unfold c_is_spot
  walk_at "dv"
  repeat' split
  all_goals exact bl_at h (by walk_at "beq")
theorem mm1_t2 {f : Int → Int → Int} {Q : D → Prop} {i j : Int} (h : Q (.int (f i j))) : mm1D f [.tup [.int i, .int j]] Q := ⟨i, [j], rfl, h⟩
theorem like_bl {n : Nat} {a b : Bool} {Q : D → Prop} (e : b = a) (h : Q (.bl true)) : c_law_like (n + 1) [.bl a, .bl b] Q := by
  rw [e]
  exact like_ok (n + 1) _ _ trivial h
theorem crs_turn {ax ay bx b_y cx cy : Int} : crs bx b_y cx cy ax ay = crs ax ay bx b_y cx cy := by unfold crs; grind
theorem crs_swap {ax ay bx b_y cx cy : Int} : crs ax ay cx cy bx b_y = -crs ax ay bx b_y cx cy := by unfold crs; grind
theorem sgn_neg {i : Int} : sgn (-i) = -sgn i := by
  unfold sgn
  repeat' split
  all_goals omega
theorem turn_turn {ax ay bx b_y cx cy : Int} : turn bx b_y cx cy ax ay = turn ax ay bx b_y cx cy := by unfold turn; rw [crs_turn]
theorem turn_swap {ax ay bx b_y cx cy : Int} : turn ax ay cx cy bx b_y = -turn ax ay bx b_y cx cy := by unfold turn; rw [crs_swap, sgn_neg]
/-! ### pairs in their order -/
@[irreducible] def mxx (i j k l : Int) : Int := if i < k ∨ (i = k ∧ j < l) then k else i
@[irreducible] def mxy (i j k l : Int) : Int := if i < k ∨ (i = k ∧ j < l) then l else j
@[irreducible] def mnx (i j k l : Int) : Int := if k < i ∨ (k = i ∧ l < j) then k else i
@[irreducible] def mny (i j k l : Int) : Int := if k < i ∨ (k = i ∧ l < j) then l else j
theorem max2A_c {i j k l : Int} {Q : D → Prop} : max2A [.tup [.int i, .int j], .tup [.int k, .int l]] Q = Q (.tup [.int (mxx i j k l), .int (mxy i j k l)]) := by
  rw [max2A_t2]
  unfold mxx mxy
  by_cases c : i < k ∨ (i = k ∧ j < l)
  · rw [if_pos c, if_pos c, if_pos c]
  · rw [if_neg c, if_neg c, if_neg c]
theorem min2A_c {i j k l : Int} {Q : D → Prop} : min2A [.tup [.int i, .int j], .tup [.int k, .int l]] Q = Q (.tup [.int (mnx i j k l), .int (mny i j k l)]) := by
  rw [min2A_t2]
  unfold mnx mny
  by_cases c : k < i ∨ (k = i ∧ l < j)
  · rw [if_pos c, if_pos c, if_pos c]
  · rw [if_neg c, if_neg c, if_neg c]
theorem mxx_c {i j k l : Int} : mxx k l i j = mxx i j k l := by
  unfold mxx
  repeat' split
  all_goals omega
theorem mxy_c {i j k l : Int} : mxy k l i j = mxy i j k l := by
  unfold mxy
  repeat' split
  all_goals omega
theorem mnx_c {i j k l : Int} : mnx k l i j = mnx i j k l := by
  unfold mnx
  repeat' split
  all_goals omega
theorem mny_c {i j k l : Int} : mny k l i j = mny i j k l := by
  unfold mny
  repeat' split
  all_goals omega
theorem slh4 {a b c d : D} {Q : D → Prop} : slD (.tup [a, b, c, d]) none (some 2) Q = Q (.tup [a, b]) := by
  rw [slD_t]
  exact propext ⟨fun h => h.2, fun h => ⟨by simp only [List.length_cons, List.length_nil]; decide, h⟩⟩
theorem slt4' {a b c d : D} {Q : D → Prop} : slD (.tup [a, b, c, d]) (some 2) none Q = Q (.tup [c, d]) := by
  rw [slD_t]
  exact propext ⟨fun h => h.2, fun h => ⟨by simp only [List.length_cons, List.length_nil]; decide, h⟩⟩
end DV

namespace DV
open PySem PySem.Spec PyProof.Rows L2
local macro_rules | `(tactic| walk_at "dv") => `(tactic| simp (config := { failIfUnchanged := false, implicitDefEqProofs := false }) only [↓k_for_q, ↓e_for_n, ↓e_for_c, ↓k_sAppend1_q, ↓k_sAppend_q, ↓k_sRetOwn_q, ↓k_sPar2_q, ↓k_sPar_q, ↓k_sPar33_q, ↓k_sPar3_q, ↓k_some_q, ↓k_asI_q, ↓k_asS_q, ↓k_rng1_q, ↓k_one_q, ↓k_rng22_q, ↓k_rng21_q, ↓k_rng2_q, ↓k_two_q, ↓k_non_q, ↓k_no_q, ↓k_sSet_q, ↓k_sAsg_q, ↓k_sAsg2_q, ↓k_sIf_q, ↓k_sDrop_q, ↓k_sOwn_q, ↓k_sFor_q, ↓k_gs_q, ↓k_dOp2_q, ↓k_dOp_q, ↓k_dCh4_q, ↓k_dCh3_q, ↓k_dCh2_q, ↓k_dCh1_q, ↓k_dUn_q, ↓k_dTest_q, ↓k_dAnd_q, ↓k_dOr_q, ↓k_dNot_q, ↓k_dAndV_q, ↓k_dOrV_q, ↓k_dIf_q, ↓k_dCons2_q, ↓k_dCons_q, ↓k_dTup_q, ↓k_dLst_q, ↓k_dCall_q, ↓k_dIsi_q, ↓k_dIsi2_q, ↓k_dSl3_q, ↓k_dSl2_q, ↓k_dSl_q, ↓k_dRev_q, ↓k_dLc_q, ↓k_dB_q, ↓chB_b, ↓tsB_b, ↓dVar_s, ↓ownL_o, ↓ownD_o, ↓roL_l, ↓e_sAppend, ↓e_sRetOwn, ↓two_2, ↓three_3, ↓e_sPar, ↓e_sPar3, ↓asI_i, ↓e_dPart, ↓asS_l, ↓asS_t, ↓e_iSeq, ↓one_1, ↓e_iRng1D, ↓e_iRng2D, ↓wipeD_n, ↓wipeD_c, ↓frz_0, ↓frz_0v, ↓frz_s, ↓e_fnD, ↓e_sSeq, ↓e_sNext, ↓e_sBreak, ↓e_sCont, ↓e_sSet, ↓e_sAsg, ↓e_sAsg2, ↓e_sIf, ↓e_sRet, ↓e_sRetN, ↓e_sDrop, ↓e_sNever, ↓e_sOwn, ↓e_sFrz, ↓e_sFor, ↓e_gN, ↓e_gT_t, ↓e_gsNil_n, ↓e_gsCons_c, ↓e_dVar_0, ↓e_dVar_0t, ↓e_dC, ↓e_dOp, ↓e_dChain, ↓e_dUn, ↓e_dTest, ↓e_dAnd, ↓e_dOr, ↓e_dNot, ↓e_dAndV, ↓e_dOrV, ↓e_dIf, ↓e_dNil, ↓e_dCons, ↓e_dTup, ↓e_dLst, ↓e_dCall, ↓e_dB, ↓e_dIsi, ↓e_dIsi2, ↓e_dSl, ↓e_dRev, ↓e_dNo, ↓e_dYes, ↓e_dLc,
  ↓addD_ii, ↓addD_tt, ↓addD_ll, ↓subD_ii, ↓mulD_ii, ↓fdivD_ii, ↓modD_ii, ↓powD_10_9, ↓powD_10_6, ↓ltA_ii, ↓leA_ii, ↓gtA_ii, ↓geA_ii, ↓ltA_t2, ↓leA_t2, ↓gtA_t2, ↓geA_t2, ↓max2A_ii, ↓min2A_ii, ↓slh4, ↓slt4', ↓max2A_c, ↓min2A_c, ↓revD_l, ↓isNon_n, ↓isNon_t, ↓isNon_l, ↓notNon_n, ↓notNon_t, ↓isBD_bb, ↓negD_i, ↓notD_b, ↓absD_i, ↓intC_i, ↓intC_b, ↓lenD_l, ↓lenD_t, ↓listD_l, ↓listD_t, ↓tupleD_l, ↓tupleD_t, ↓allD_l, ↓anyD_l, ↓ixT0, ↓ixT1, ↓ixT2, ↓ixT3, ↓ixL0, ↓ixL1, ↓ixL2, ↓ixL3, ↓slD_l,
  eqD, neD, notInD, sl0, sl1, sl2, sl3, sl4, sl5, sl6, sl7, sl8, sl9, sl10, sl11, sl12, slt0, slt1, slt2, slt3, slt4, slt5, slt6, slt7, slt8, slt9, slt10, slt11, slt12, lay_i, lay_b, lay_n, lay_t0, lay_l0, lay_t2, lay_t4, eqb_ii, eqb_bb, eqb_ss, eqb_nn, eqb_tt, eqb_ll, eqbs_nn, eqbs_cc, eqbs_nc, eqbs_cn, tyOk_n, tyOk_b, tyOk_i, tyOk_s, tyOk_t, tyOk_l, isi_n, isi_b, isi_i, isi_s, isi_t, isi_l,
  List.map_cons, List.map_nil, List.cons_append, List.nil_append, List.append_nil, List.append_assoc, List.length_cons, List.length_nil, List.getElem?_cons_zero, List.getElem?_cons_succ, List.set_cons_zero, List.set_cons_succ, List.replicate, Nat.reduceAdd, Nat.reduceSub, Nat.zero_add, Nat.reduceLeDiff, Nat.reduceEqDiff,
  if_true, if_false, true_and, and_true, and_self, Bool.not_true, Bool.not_false, Bool.false_eq_true, Bool.and_true, Bool.true_and, Bool.or_false, Bool.false_or, Bool.or_true, Bool.true_or, decide_eq_true_eq, decide_true, decide_false, beq_self_eq_true, beq_iff_eq, String.reduceEq, reduceIte, reduceCtorEq])

/-! ### what may be compared -/
def LayN : Nat → D → Prop
  | 0, d => match d with
    | .non => True
    | .bl _ => True
    | .int _ => True
    | .str x => PyData.strOk x = true
    | _ => False
  | n + 1, d => match d with
    | .non => True
    | .bl _ => True
    | .int _ => True
    | .str x => PyData.strOk x = true
    | .tup ds => ∀ d ∈ ds, LayN n d
    | .lst ds => ∀ d ∈ ds, LayN n d
    | _ => False
def LayOk (n : Nat) (d : D) : Prop := d.flatOk = true ∧ d.toP.canLay0 = true ∧ d.toP.depth ≤ n
def LayOks (n : Nat) (ds : List D) : Prop := D.flatOks ds = true ∧ PyData.canLayAll0 (D.toPs ds) = true ∧ PyData.depthAll (D.toPs ds) ≤ n
theorem layOks {n : Nat} : ∀ {ds : List D}, (∀ d ∈ ds, LayOk n d) → LayOks n ds
  | [], _ => by refine ⟨?_, ?_, ?_⟩ <;> simp [D.flatOks, D.toPs, PyData.canLayAll0, PyData.depthAll]
  | d :: ds, h => by
    obtain ⟨a1, a2, a3⟩ := h d List.mem_cons_self
    obtain ⟨b1, b2, b3⟩ := layOks (ds := ds) fun d hd => h d (List.mem_cons_of_mem _ hd)
    refine ⟨?_, ?_, ?_⟩
    · simp [D.flatOks, a1, b1]
    · simp [D.toPs, PyData.canLayAll0, a2, b2]
    · simp only [D.toPs, PyData.depthAll]
      omega
theorem layOk_of : ∀ (n : Nat) (d : D), LayN n d → LayOk (n + 1) d
  | 0, d, h => by
    cases d <;> first | exact h.elim | (refine ⟨?_, ?_, ?_⟩ <;> simp [D.flatOk, D.toP, PyData.canLay0, PyData.depth] <;> exact h)
  | n + 1, d, h => by
    cases d with
    | tup ds =>
      obtain ⟨b1, b2, b3⟩ := layOks (n := n + 1) (ds := ds) fun d hd => layOk_of n d (h d hd)
      refine ⟨by simp only [D.flatOk, b1], by simp only [D.toP, PyData.canLay0, b2], ?_⟩
      simp only [D.toP, PyData.depth]
      omega
    | lst ds =>
      obtain ⟨b1, b2, b3⟩ := layOks (n := n + 1) (ds := ds) fun d hd => layOk_of n d (h d hd)
      refine ⟨by simp only [D.flatOk, b1], by simp only [D.toP, PyData.canLay0, b2], ?_⟩
      simp only [D.toP, PyData.depth]
      omega
    | dic => exact h.elim
    | bag => exact h.elim
    | scr => exact h.elim
    | non => refine ⟨?_, ?_, ?_⟩ <;> simp [D.flatOk, D.toP, PyData.canLay0, PyData.depth]
    | bl => refine ⟨?_, ?_, ?_⟩ <;> simp [D.flatOk, D.toP, PyData.canLay0, PyData.depth]
    | int => refine ⟨?_, ?_, ?_⟩ <;> simp [D.flatOk, D.toP, PyData.canLay0, PyData.depth]
    | str x => exact ⟨by simp [D.flatOk], by
      have h' : PyData.strOk x = true := h
      simpa [D.toP, PyData.canLay0] using h', by simp [D.toP, PyData.depth]⟩
theorem lay_of {n : Nat} {d : D} (hn : n ≤ 60) (h : LayN n d) : d.lay = true := by
  obtain ⟨h1, h2, h3⟩ := layOk_of n d h
  simp only [D.lay, SeqAt.shaped, h1, h2, Bool.true_and, decide_eq_true_eq]
  omega
/-! ### fractions in lowest terms -/
theorem fdiv_l {g p : Int} (hg : g ≠ 0) : (g * p).fdiv g = p := Int.mul_fdiv_cancel_left p hg
theorem fdiv_ln {g p : Int} (hg : g ≠ 0) : (g * p).fdiv (-g) = -p := by
  rw [show g * p = (-g) * (-p) by rw [Int.neg_mul_neg]]
  exact Int.mul_fdiv_cancel_left _ (by omega)
theorem lowD_spec {o u : Int} (hu : u ≠ 0) : ∃ n v : Int, lowD o u = .tup [.int n, .int v] ∧ 0 < v ∧ n * u = o * v ∧ n.natAbs ≤ o.natAbs ∧ v.natAbs ≤ u.natAbs ∧ Int.gcd n v = 1 := by
  have hg := gcd_small (o := o) hu
  unfold lowD
  obtain ⟨p, hp⟩ : ((Int.gcd o u : Nat) : Int) ∣ o := Int.gcd_dvd_left ..
  obtain ⟨q, hq⟩ : ((Int.gcd o u : Nat) : Int) ∣ u := Int.gcd_dvd_right ..
  have hc : Int.gcd p q = 1 := by
    have h1 : Int.gcd o u = Int.gcd ((Int.gcd o u : Nat) * p) ((Int.gcd o u : Nat) * q) := by rw [← hp, ← hq]
    rw [Int.gcd_mul_left, Int.natAbs_natCast] at h1
    exact Nat.eq_of_mul_eq_mul_left hg.1 (by omega)
  generalize Int.gcd o u = g at hp hq hg
  have g0 : (g : Int) ≠ 0 := by omega
  have b1 : p.natAbs ≤ o.natAbs := by rw [hp, Int.natAbs_mul]; exact Nat.le_mul_of_pos_left _ (by omega)
  have b2 : q.natAbs ≤ u.natAbs := by rw [hq, Int.natAbs_mul]; exact Nat.le_mul_of_pos_left _ (by omega)
  by_cases hn : u < 0
  · rw [if_pos hn]
    refine ⟨-p, -q, ?_, ?_, ?_, by omega, by omega, by rw [Int.neg_gcd, Int.gcd_neg]; exact hc⟩
    · rw [show o.fdiv (-(g : Int)) = -p by rw [hp]; exact fdiv_ln g0, show u.fdiv (-(g : Int)) = -q by rw [hq]; exact fdiv_ln g0]
    · have := (mul_pos_iff' (g := (g : Int)) (k := q) (by omega)).2
      rw [← hq] at this
      have := this.mp hn
      omega
    · rw [hp, hq]; grind
  · rw [if_neg hn]
    refine ⟨p, q, ?_, ?_, ?_, by omega, by omega, hc⟩
    · rw [show o.fdiv (g : Int) = p by rw [hp]; exact fdiv_l g0, show u.fdiv (g : Int) = q by rw [hq]; exact fdiv_l g0]
    · have := (mul_pos_iff' (g := (g : Int)) (k := q) (by omega)).1
      rw [← hq] at this
      exact this.mp (by omega)
    · rw [hp, hq]; grind
theorem cop_eq {n v m w : Int} (hv : 0 < v) (hw : 0 < w) (h1 : Int.gcd n v = 1) (h2 : Int.gcd m w = 1) (e : n * w = m * v) : n = m ∧ v = w := by
  have a1 : v.natAbs ∣ w.natAbs := by
    refine Nat.Coprime.dvd_of_dvd_mul_right (n := n.natAbs) ?_ ?_
    · rw [Nat.Coprime, Nat.gcd_comm]; exact h1
    · rw [← Int.natAbs_mul, Int.mul_comm, e, Int.natAbs_mul]; exact Nat.dvd_mul_left _ _
  have a2 : w.natAbs ∣ v.natAbs := by
    refine Nat.Coprime.dvd_of_dvd_mul_right (n := m.natAbs) ?_ ?_
    · rw [Nat.Coprime, Nat.gcd_comm]; exact h2
    · rw [← Int.natAbs_mul, Int.mul_comm, ← e, Int.natAbs_mul]; exact Nat.dvd_mul_left _ _
  have a3 := Nat.dvd_antisymm a1 a2
  have hvw : v = w := by omega
  refine ⟨?_, hvw⟩
  rw [hvw] at e
  exact Int.eq_of_mul_eq_mul_right (by omega) e
theorem lowD_eq {o u o' u' : Int} (hu : u ≠ 0) (hu' : u' ≠ 0) (e : o * u' = o' * u) : lowD o u = lowD o' u' := by
  obtain ⟨n, v, e1, v0, r1, -, -, c1⟩ := lowD_spec (o := o) hu
  obtain ⟨m, w, e2, w0, r2, -, -, c2⟩ := lowD_spec (o := o') hu'
  rw [e1, e2]
  have k : n * w = m * v := by
    refine Int.eq_of_mul_eq_mul_right (a := u * u') (Int.mul_ne_zero hu hu') ?_
    grind
  obtain ⟨rfl, rfl⟩ := cop_eq v0 w0 c1 c2 k
  rfl
/-! ### where strokes meet -/
def comD (a b c d : Int) : D := if c < a ∨ (c = a ∧ d < b) then .non else if a = c ∧ b = d then .tup [.str (Str.ofString "at"), .tup [.tup [.int a, .int 1], .tup [.int b, .int 1]]] else .tup [.str (Str.ofString "along"), .tup [.int a, .int b], .tup [.int c, .int d]]
def commonD (a b c d e f g h : Int) : D := comD (mxx (mnx a b c d) (mny a b c d) (mnx e f g h) (mny e f g h)) (mxy (mnx a b c d) (mny a b c d) (mnx e f g h) (mny e f g h)) (mnx (mxx a b c d) (mxy a b c d) (mxx e f g h) (mxy e f g h)) (mny (mxx a b c d) (mxy a b c d) (mxx e f g h) (mxy e f g h))
theorem d_at {Q : D → Prop} {i j : D} (h : Q i) (e : j = i) : Q j := e ▸ h
theorem common_ok {Q : D → Prop} {a b c d e f g h : Int} (hq : Q (commonD a b c d e f g h)) : c_common [.tup [.int a, .int b, .int c, .int d], .tup [.int e, .int f, .int g, .int h]] Q := by
  unfold c_common
  walk_at "dv"
  unfold commonD comD at hq
  split
  · rename_i c1
    rw [if_pos c1] at hq
    exact hq
  · rename_i c1
    rw [if_neg c1] at hq
    simp only [Bool.and_eq_true, beq_iff_eq]
    split
    · rename_i c2
      rw [if_pos c2] at hq
      exact hq
    · rename_i c2
      rw [if_neg c2] at hq
      exact hq
theorem commonD_c {a b c d e f g h : Int} : commonD e f g h a b c d = commonD a b c d e f g h := by
  unfold commonD
  rw [mxx_c (i := mnx a b c d), mxy_c (i := mnx a b c d), mnx_c (i := mxx a b c d), mny_c (i := mxx a b c d)]
theorem commonD_r {a b c d e f g h : Int} : commonD c d a b e f g h = commonD a b c d e f g h := by
  unfold commonD
  rw [mnx_c (i := a), mny_c (i := a), mxx_c (i := a), mxy_c (i := a)]
@[irreducible] def wh (a b c d e f g h : Int) : Int := (c - a) * (h - f) - (d - b) * (g - e)
@[irreducible] def c0 (a b c d e f : Int) : Int := (c - a) * (f - b) - (d - b) * (e - a)
@[irreducible] def e0 (a b e f g h : Int) : Int := (e - a) * (h - f) - (f - b) * (g - e)
def meetD (a b c d e f g h : Int) : D := if wh a b c d e f g h = 0 then (if c0 a b c d e f = 0 then commonD a b c d e f g h else .non) else
  if 0 < c0 a b c d e f * (c0 a b c d e f + wh a b c d e f g h) ∨ 0 < e0 a b e f g h * (e0 a b e f g h - wh a b c d e f g h) then .non else
  .tup [.str (Str.ofString "at"), .tup [lowD (a * wh a b c d e f g h + e0 a b e f g h * (c - a)) (wh a b c d e f g h), lowD (b * wh a b c d e f g h + e0 a b e f g h * (d - b)) (wh a b c d e f g h)]]
theorem wh_c {a b c d e f g h : Int} : wh e f g h a b c d = -wh a b c d e f g h := by unfold wh; grind
theorem wh_r {a b c d e f g h : Int} : wh c d a b e f g h = -wh a b c d e f g h := by unfold wh; grind
theorem c0_c {a b e f g h : Int} : c0 e f g h a b = e0 a b e f g h := by unfold c0 e0; grind
theorem e0_c {a b c d e f : Int} : e0 e f a b c d = c0 a b c d e f := by unfold c0 e0; grind
theorem c0_r {a b c d e f : Int} : c0 c d a b e f = -c0 a b c d e f := by unfold c0; grind
theorem e0_r {a b c d e f g h : Int} : e0 c d e f g h = e0 a b e f g h - wh a b c d e f g h := by unfold e0 wh; grind
theorem ec_x {a b c d e f g h : Int} : (e - a) * wh a b c d e f g h = e0 a b e f g h * (c - a) + c0 a b c d e f * (g - e) := by unfold e0 wh c0; grind
theorem ec_y {a b c d e f g h : Int} : (f - b) * wh a b c d e f g h = e0 a b e f g h * (d - b) + c0 a b c d e f * (h - f) := by unfold e0 wh c0; grind
theorem meetD_c {a b c d e f g h : Int} (n1 : ¬(c = a ∧ d = b)) (n2 : ¬(g = e ∧ h = f)) : meetD e f g h a b c d = meetD a b c d e f g h := by
  unfold meetD
  have ex := ec_x (a := a) (b := b) (c := c) (d := d) (e := e) (f := f) (g := g) (h := h)
  have ey := ec_y (a := a) (b := b) (c := c) (d := d) (e := e) (f := f) (g := g) (h := h)
  rw [wh_c, show c0 e f g h a b = e0 a b e f g h from c0_c, show e0 e f a b c d = c0 a b c d e f from e0_c, commonD_c]
  generalize hw : wh a b c d e f g h = W at *
  generalize hc : c0 a b c d e f = C at *
  generalize he : e0 a b e f g h = E at *
  by_cases w0 : W = 0
  · rw [w0] at ex ey ⊢
    rw [if_pos (by decide), if_pos rfl]
    by_cases k0 : C = 0
    · rw [k0] at ex ey
      have z : E = 0 := by
        by_cases q : c = a
        · have q2 : d - b ≠ 0 := by omega
          have : E * (d - b) = 0 := by omega
          exact (Int.mul_eq_zero.mp this).resolve_right q2
        · have : E * (c - a) = 0 := by omega
          exact (Int.mul_eq_zero.mp this).resolve_right (by omega)
      rw [z, k0]
    · have z : E ≠ 0 := by
        intro z
        rw [z] at ex ey
        by_cases q : g = e
        · have q2 : h - f ≠ 0 := by omega
          have : C * (h - f) = 0 := by omega
          exact k0 ((Int.mul_eq_zero.mp this).resolve_right q2)
        · have : C * (g - e) = 0 := by omega
          exact k0 ((Int.mul_eq_zero.mp this).resolve_right (by omega))
      rw [if_neg z, if_neg k0]
  · rw [if_neg (show ¬(-W = 0) by omega), if_neg w0, show E + -W = E - W by omega, show C - -W = C + W by omega]
    by_cases q : 0 < C * (C + W) ∨ 0 < E * (E - W)
    · rw [if_pos q, if_pos q.symm]
    · rw [if_neg q, if_neg (fun z => q z.symm)]
      rw [lowD_eq (o := e * -W + C * (g - e)) (u := -W) (o' := a * W + E * (c - a)) (u' := W) (by omega) w0 (by grind), lowD_eq (o := f * -W + C * (h - f)) (u := -W) (o' := b * W + E * (d - b)) (u' := W) (by omega) w0 (by grind)]
theorem meetD_r {a b c d e f g h : Int} : meetD c d a b e f g h = meetD a b c d e f g h := by
  unfold meetD
  rw [wh_r, c0_r, e0_r, commonD_r]
  generalize hw : wh a b c d e f g h = W at *
  generalize hc : c0 a b c d e f = C at *
  generalize he : e0 a b e f g h = E at *
  by_cases w0 : W = 0
  · rw [w0, if_pos (by decide), if_pos rfl]
    by_cases k0 : C = 0
    · rw [if_pos (by omega), if_pos k0]
    · rw [if_neg (by omega), if_neg k0]
  · rw [if_neg (show ¬(-W = 0) by omega), if_neg w0, show -C * (-C + -W) = C * (C + W) by grind, show (E - W) * (E - W - -W) = E * (E - W) by grind]
    by_cases q : 0 < C * (C + W) ∨ 0 < E * (E - W)
    · rw [if_pos q, if_pos q]
    · rw [if_neg q, if_neg q]
      rw [lowD_eq (o := c * -W + (E - W) * (a - c)) (u := -W) (o' := a * W + E * (c - a)) (u' := W) (by omega) w0 (by grind), lowD_eq (o := d * -W + (E - W) * (b - d)) (u := -W) (o' := b * W + E * (d - b)) (u' := W) (by omega) w0 (by grind)]
theorem prod_b {i j : Int} {m n : Nat} (h1 : i.natAbs ≤ m) (h2 : j.natAbs ≤ n) : (i * j).natAbs ≤ m * n := by
  rw [Int.natAbs_mul]
  exact Nat.mul_le_mul h1 h2
theorem plus_ok {Q : D → Prop} {a b c d : Int} (h1 : b.natAbs < 1000000000) (h2 : d.natAbs < 1000000000) (hb : b ≠ 0) (hd : d ≠ 0) (hq : Q (lowD (a * d + c * b) (b * d))) : c_plus [.tup [.int a, .int b], .tup [.int c, .int d]] Q := by
  unfold c_plus
  walk_at "dv"
  have := prod_b (i := b) (j := d) (m := 1000000000) (n := 1000000000) (by omega) (by omega)
  exact ⟨mulOk (by omega), mulOk (by omega), mulOk (by omega), lowest_ok (Int.mul_ne_zero hb hd) (by omega) hq⟩
theorem below_ok {Q : D → Prop} {a b c d : Int} (h1 : b.natAbs < 1000000000) (h2 : d.natAbs < 1000000000) (hq : Q (.bl (decide (a * d < c * b)))) : c_below [.tup [.int a, .int b], .tup [.int c, .int d]] Q := by
  unfold c_below
  walk_at "dv"
  exact ⟨mulOk (by omega), mulOk (by omega), hq⟩
theorem pos_of_mul' {a b : Int} (h : 0 < a * b) (hb : 0 < b) : 0 < a := by
  rcases Int.lt_or_le 0 a with h1 | h1
  · exact h1
  · have := Int.mul_nonneg (show 0 ≤ -a by omega) (show 0 ≤ b by omega)
    rw [Int.neg_mul] at this
    omega
theorem frac_out {n v E W : Int} (v0 : 0 < v) (w0 : W ≠ 0) (r : n * W = E * v) : (n < 0 ∨ v < n) ↔ 0 < E * (E - W) := by
  have k : E * (E - W) * (v * v) = W * W * (n * (n - v)) := by grind
  have vv : 0 < v * v := Int.mul_pos v0 v0
  have ww : 0 < W * W := by
    rcases Int.lt_or_gt_of_ne w0 with h | h
    · exact Int.mul_pos_of_neg_of_neg h h
    · exact Int.mul_pos h h
  constructor
  · intro h
    have p : 0 < n * (n - v) := by
      rcases h with h | h
      · exact Int.mul_pos_of_neg_of_neg h (by omega)
      · exact Int.mul_pos (by omega) (by omega)
    have q : 0 < E * (E - W) * (v * v) := by rw [k]; exact Int.mul_pos ww p
    exact pos_of_mul' q vv
  · intro h
    have q : 0 < W * W * (n * (n - v)) := by rw [← k]; exact Int.mul_pos h vv
    rw [Int.mul_comm] at q
    have p := pos_of_mul' q ww
    rcases Int.lt_or_le n 0 with h1 | h1
    · exact .inl h1
    · rcases Int.lt_or_le v n with h2 | h2
      · exact .inr h2
      · have := Int.mul_nonneg h1 (show 0 ≤ v - n by omega)
        have e : n * (n - v) = -(n * (v - n)) := by grind
        omega
theorem frac_sum {a n v n2 v2 dx E W : Int} (v0 : 0 < v) (r : n * W = E * v) (r2 : n2 * v = n * dx * v2) : (a * v2 + n2 * 1) * W = (a * W + E * dx) * (1 * v2) := by
  have k : n2 * W = E * dx * v2 := by
    refine Int.eq_of_mul_eq_mul_right (a := v) (by omega) ?_
    grind
  grind
def In100 (i : Int) : Prop := -100 ≤ i ∧ i ≤ 100
theorem meet_ok {Q : D → Prop} {a b c d e f g h : Int} (ha : In100 a) (hb : In100 b) (hc : In100 c) (hd : In100 d) (he : In100 e) (hf : In100 f) (hg : In100 g) (hh : In100 h) (hq : Q (meetD a b c d e f g h)) : c_meet [.tup [.int a, .int b, .int c, .int d], .tup [.int e, .int f, .int g, .int h]] Q := by
  unfold In100 at *
  unfold c_meet
  walk_at "dv"
  refine ⟨mulOk (by omega), mulOk (by omega), ?_⟩
  have hW : (c - a) * (h - f) - (d - b) * (g - e) = wh a b c d e f g h := by unfold wh; rfl
  have hE : (e - a) * (h - f) - (f - b) * (g - e) = e0 a b e f g h := by unfold e0; rfl
  have hC : (e - a) * (d - b) - (f - b) * (c - a) = -c0 a b c d e f := by unfold c0; grind
  have bW : (wh a b c d e f g h).natAbs ≤ 80000 := by
    rw [← hW]
    have := prod_b (i := c - a) (j := h - f) (m := 200) (n := 200) (by omega) (by omega)
    have := prod_b (i := d - b) (j := g - e) (m := 200) (n := 200) (by omega) (by omega)
    omega
  have bE : (e0 a b e f g h).natAbs ≤ 80000 := by
    rw [← hE]
    have := prod_b (i := e - a) (j := h - f) (m := 200) (n := 200) (by omega) (by omega)
    have := prod_b (i := f - b) (j := g - e) (m := 200) (n := 200) (by omega) (by omega)
    omega
  rw [hW, hC, hE]
  unfold meetD at hq
  generalize wh a b c d e f g h = W at *
  generalize c0 a b c d e f = C at *
  generalize e0 a b e f g h = E at *
  by_cases w0 : W = 0
  · rw [if_pos w0] at hq ⊢
    refine ⟨mulOk (by omega), mulOk (by omega), ?_⟩
    by_cases k0 : C = 0
    · rw [if_pos k0] at hq
      rw [if_pos (by omega)]
      exact common_ok hq
    · rw [if_neg k0] at hq
      rw [if_neg (by omega)]
      exact hq
  · rw [if_neg w0] at hq ⊢
    refine ⟨mulOk (by omega), mulOk (by omega), lowest_ok w0 (by omega) ?_⟩
    obtain ⟨n, v, e1, v0, r1, s1, s2, -⟩ := lowD_spec (o := E) w0
    rw [e1]
    walk_at "dv"
    rw [hC]
    refine ⟨mulOk (by omega), mulOk (by omega), lowest_ok w0 (by omega) ?_⟩
    obtain ⟨m, w, e2, u0, r2, s3, s4, -⟩ := lowD_spec (o := -C) w0
    rw [e2]
    have p1 := frac_out v0 w0 r1
    have p2 := frac_out u0 w0 r2
    rw [show -C * (-C - W) = C * (C + W) by grind] at p2
    walk_at "dv"
    refine below_ok (by omega) (by omega) ?_
    walk_at "dv"
    split
    · rw [if_pos (.inr (p1.mp (by omega)))] at hq
      exact hq
    refine below_ok (by omega) (by omega) ?_
    walk_at "dv"
    split
    · rw [if_pos (.inr (p1.mp (by omega)))] at hq
      exact hq
    refine below_ok (by omega) (by omega) ?_
    walk_at "dv"
    split
    · rw [if_pos (.inl (p2.mp (by omega)))] at hq
      exact hq
    refine below_ok (by omega) (by omega) ?_
    walk_at "dv"
    split
    · rw [if_pos (.inl (p2.mp (by omega)))] at hq
      exact hq
    rw [if_neg (fun z => z.elim (fun z => by have := p2.mpr z; omega) (fun z => by have := p1.mpr z; omega))] at hq
    have b1 := prod_b (i := n) (j := c - a) (m := 80000) (n := 200) (by omega) (by omega)
    have b2 := prod_b (i := n) (j := d - b) (m := 80000) (n := 200) (by omega) (by omega)
    refine ⟨mulOk (by omega), lowest_ok (by omega) (by omega) ?_⟩
    obtain ⟨n2, v2, e3, v20, r3, s5, s6, -⟩ := lowD_spec (o := n * (c - a)) (u := v) (by omega)
    rw [e3]
    walk_at "dv"
    refine plus_ok (by decide) (by omega) (by decide) (by omega) ?_
    rw [lowD_eq (o' := a * W + E * (c - a)) (u' := W) (by omega) w0 (frac_sum v0 r1 r3)]
    walk_at "dv"
    refine ⟨mulOk (by omega), lowest_ok (by omega) (by omega) ?_⟩
    obtain ⟨n3, v3, e4, v30, r4, s7, s8, -⟩ := lowD_spec (o := n * (d - b)) (u := v) (by omega)
    rw [e4]
    walk_at "dv"
    refine plus_ok (by decide) (by omega) (by decide) (by omega) ?_
    rw [lowD_eq (o' := b * W + E * (d - b)) (u' := W) (by omega) w0 (frac_sum v0 r1 r4)]
    walk_at "dv"
    exact hq
theorem and_mul {i j : Int} {P : Prop} (h : (-18446744073709551616 < i ∧ i < 18446744073709551616) ∨ (-18446744073709551616 < j ∧ j < 18446744073709551616)) (p : P) : MulOk i j ∧ P := ⟨mulOk h, p⟩
theorem crs_c0 {a b c d e f : Int} : crs a b c d e f = c0 a b c d e f := by unfold crs c0; rfl
theorem crs_c1 {a b c d e f g h : Int} : crs a b c d g h = c0 a b c d e f + wh a b c d e f g h := by unfold crs c0 wh; grind
theorem crs_e0 {a b e f g h : Int} : crs e f g h a b = e0 a b e f g h := by unfold crs e0; grind
theorem crs_e1 {a b c d e f g h : Int} : crs e f g h c d = e0 a b e f g h - wh a b c d e f g h := by unfold crs e0 wh; grind
theorem law_meet_ok {Q : D → Prop} {a b c d e f g h : Int} (ha : In100 a) (hb : In100 b) (hc : In100 c) (hd : In100 d) (he : In100 e) (hf : In100 f) (hg : In100 g) (hh : In100 h) (hq : Q (meetD a b c d e f g h)) : c_law_meet [.tup [.int a, .int b, .int c, .int d], .tup [.int e, .int f, .int g, .int h]] Q := by
  unfold In100 at *
  unfold c_law_meet
  walk_at "dv"
  refine cross_ok (by omega) (by omega) ?_
  walk_at "dv"
  refine cross_ok (by omega) (by omega) ?_
  walk_at "dv"
  refine cross_ok (by omega) (by omega) ?_
  walk_at "dv"
  refine cross_ok (by omega) (by omega) ?_
  walk_at "dv"
  refine ⟨by rfl, by rfl, ?_⟩
  have bC : (c0 a b c d e f).natAbs ≤ 80000 := by
    unfold c0
    have := prod_b (i := c - a) (j := f - b) (m := 200) (n := 200) (by omega) (by omega)
    have := prod_b (i := d - b) (j := e - a) (m := 200) (n := 200) (by omega) (by omega)
    omega
  have bW : (wh a b c d e f g h).natAbs ≤ 80000 := by
    unfold wh
    have := prod_b (i := c - a) (j := h - f) (m := 200) (n := 200) (by omega) (by omega)
    have := prod_b (i := d - b) (j := g - e) (m := 200) (n := 200) (by omega) (by omega)
    omega
  have bE : (e0 a b e f g h).natAbs ≤ 80000 := by
    unfold e0
    have := prod_b (i := e - a) (j := h - f) (m := 200) (n := 200) (by omega) (by omega)
    have := prod_b (i := f - b) (j := g - e) (m := 200) (n := 200) (by omega) (by omega)
    omega
  have ex := ec_x (a := a) (b := b) (c := c) (d := d) (e := e) (f := f) (g := g) (h := h)
  have ey := ec_y (a := a) (b := b) (c := c) (d := d) (e := e) (f := f) (g := g) (h := h)
  rw [show crs a b c d e f = c0 a b c d e f from crs_c0, show crs a b c d g h = c0 a b c d e f + wh a b c d e f g h from crs_c1, show crs e f g h a b = e0 a b e f g h from crs_e0, show crs e f g h c d = e0 a b e f g h - wh a b c d e f g h from crs_e1]
  unfold meetD at hq
  generalize wh a b c d e f g h = W at *
  generalize c0 a b c d e f = C at *
  generalize e0 a b e f g h = E at *
  simp only [Bool.and_eq_true, beq_iff_eq]
  by_cases w0 : W = 0
  · rw [if_pos w0] at hq
    by_cases k0 : C = 0
    · rw [if_pos k0] at hq
      rw [if_pos ⟨k0, by omega⟩]
      unfold commonD comD at hq
      generalize mxx (mnx a b c d) (mny a b c d) (mnx e f g h) (mny e f g h) = p at *
      generalize mxy (mnx a b c d) (mny a b c d) (mnx e f g h) (mny e f g h) = q at *
      generalize mnx (mxx a b c d) (mxy a b c d) (mxx e f g h) (mxy e f g h) = r at *
      generalize mny (mxx a b c d) (mxy a b c d) (mxx e f g h) (mxy e f g h) = t at *
      split
      · rw [if_neg (by omega), if_neg (by omega)] at hq
        exact hq
      · split
        · rw [if_neg (by omega), if_pos (by omega)] at hq
          exact hq
        · rw [if_pos (by omega)] at hq
          exact hq
    · rw [if_neg k0] at hq
      rw [if_neg (fun z => k0 z.1)]
      refine ⟨mulOk (by omega), ?_⟩
      have p : 0 < C * (C + W) := by
        rw [w0, Int.add_zero]
        rcases Int.lt_or_gt_of_ne k0 with h | h
        · exact Int.mul_pos_of_neg_of_neg h h
        · exact Int.mul_pos h h
      rw [if_pos p]
      exact hq
  · rw [if_neg w0] at hq
    rw [if_neg (by omega)]
    refine ⟨mulOk (by omega), ?_⟩
    split
    · rename_i p
      rw [if_pos (.inl p)] at hq
      exact hq
    rename_i p1
    refine ⟨mulOk (by omega), ?_⟩
    split
    · rename_i p
      rw [if_pos (.inr p)] at hq
      exact hq
    rename_i p2
    rw [if_neg (fun z => z.elim p1 p2)] at hq
    refine ⟨mulOk (by omega), mulOk (by omega), law_low_ok (by omega) (by omega) ?_⟩
    rw [lowD_eq (o' := a * W + E * (c - a)) (u' := W) (by omega) w0 (by grind)]
    walk_at "dv"
    refine ⟨mulOk (by omega), mulOk (by omega), law_low_ok (by omega) (by omega) ?_⟩
    rw [lowD_eq (o := f * (C - (C + W)) + (h - f) * C) (u := C - (C + W)) (o' := b * W + E * (d - b)) (u' := W) (by omega) w0 (by grind)]
    walk_at "dv"
    exact hq
def StrokeOk (d : D) : Prop := ∃ a b c e : Int, d = .tup [.int a, .int b, .int c, .int e] ∧ -40 ≤ a ∧ a ≤ 40 ∧ -40 ≤ b ∧ b ≤ 40 ∧ -40 ≤ c ∧ c ≤ 40 ∧ -40 ≤ e ∧ e ≤ 40 ∧ ¬(c = a ∧ e = b)
theorem StrokeOk.layN {d : D} (h : StrokeOk d) : LayN 1 d := by
  obtain ⟨a, b, c, e, rfl, -⟩ := h
  intro d hd
  simp only [List.mem_cons, List.not_mem_nil, or_false] at hd
  rcases hd with rfl | rfl | rfl | rfl <;> exact True.intro
theorem law_stroke_ok {Q : D → Prop} {x y r : Int} (h0 : 0 ≤ r) (h1 : r < 1000000) (h : ∀ d, StrokeOk d → Q d) : c_law_stroke [.bag, .tup [.int x, .int y], .int r] Q := by
  unfold c_law_stroke
  walk_at "dv"
  refine law_spot_ok h0 h1 fun d0 hd0 => ?_
  obtain ⟨a, b, rfl, a0, a1, b0, b1⟩ := hd0
  walk_at "dv"
  refine law_spot_ok h0 h1 fun d0 hd0 => ?_
  obtain ⟨c, d, rfl, c0, c1, d0, d1⟩ := hd0
  walk_at "dv"
  simp only [Bool.and_eq_true, beq_iff_eq]
  split
  · split
    · exact ⟨by simp, h _ ⟨_, _, _, _, rfl, by omega, by omega, by omega, by omega, by omega, by omega, by omega, by omega, by omega⟩⟩
    · exact ⟨by simp, h _ ⟨_, _, _, _, rfl, by omega, by omega, by omega, by omega, by omega, by omega, by omega, by omega, by omega⟩⟩
  · exact ⟨by simp, h _ ⟨_, _, _, _, rfl, by omega, by omega, by omega, by omega, by omega, by omega, by omega, by omega, by omega⟩⟩
theorem law_beside_ok {Q : D → Prop} {x y r : Int} {ss : List D} (h0 : 0 ≤ r) (h1 : r < 1000000) (hs : ss.length < 1000000) (hk : ∀ d ∈ ss, StrokeOk d) (h : ∀ d, StrokeOk d → Q d) : c_law_beside [.bag, .tup [.int x, .int y], .int r, .lst ss] Q := by
  unfold c_law_beside
  walk_at "dv"
  refine law_stroke_ok h0 h1 fun d0 hd0 => ?_
  have hd1 := hd0
  obtain ⟨a, b, c, d, rfl, a0, a1, b0, b1, c0, c1, d0, d1, nn⟩ := hd0
  walk_at "dv"
  refine pull_ok (by decide) (by decide) fun k k0 k1 => ?_
  walk_at "dv"
  refine ⟨lay_of (n := 2) (by decide) fun d hd => (hk d hd).layN, ?_⟩
  rcases ss with _ | ⟨s1, ss⟩
  · rw [eqbs_nn, if_pos rfl]
    exact h _ hd1
  rw [eqbs_cn, if_neg (by decide)]
  split
  · exact h _ hd1
  refine law_of_ok (by simp at hs; omega) fun e he => ?_
  have he1 := hk e he
  obtain ⟨p, q, r1, s, rfl, p0, p1, q0, q1, r0, r2, s0, s1, mm⟩ := he1
  walk_at "dv"
  simp only [Bool.not_eq_true', Bool.and_eq_false_imp, beq_iff_eq, beq_eq_false_iff_ne]
  repeat' (first | split | refine and_mul ?_ ?_)
  all_goals first
    | omega
    | exact h _ hd1
    | exact ⟨by simp, h _ ⟨_, _, _, _, rfl, by omega, by omega, by omega, by omega, by omega, by omega, by omega, by omega, by omega⟩⟩
theorem lk_int {n : Nat} {i : Int} : Lk (n + 1) (.int i) := True.intro
theorem lk_two {n : Nat} {a b : D} (ha : Lk n a) (hb : Lk n b) : Lk (n + 1) (.tup [a, b]) := ⟨by simp, fun d hd => by
  simp only [List.mem_cons, List.not_mem_nil, or_false] at hd
  rcases hd with rfl | rfl
  · exact ha
  · exact hb⟩
theorem lk_three {n : Nat} {a b c : D} (ha : Lk n a) (hb : Lk n b) (hc : Lk n c) : Lk (n + 1) (.tup [a, b, c]) := ⟨by simp, fun d hd => by
  simp only [List.mem_cons, List.not_mem_nil, or_false] at hd
  rcases hd with rfl | rfl | rfl
  · exact ha
  · exact hb
  · exact hc⟩
theorem lk_at {n : Nat} : Lk (n + 1) (.str (Str.ofString "at")) := show PyData.strOk _ = true by decide +kernel
theorem lk_along {n : Nat} : Lk (n + 1) (.str (Str.ofString "along")) := show PyData.strOk _ = true by decide +kernel
theorem lk_low {n : Nat} {o u : Int} : Lk (n + 2) (lowD o u) := by unfold lowD; exact lk_two lk_int lk_int
theorem meetD_lk {n : Nat} {a b c d e f g h : Int} : Lk (n + 5) (meetD a b c d e f g h) := by
  unfold meetD commonD comD
  repeat' split
  · exact True.intro
  · exact lk_two lk_at (lk_two (lk_two lk_int lk_int) (lk_two lk_int lk_int))
  · exact lk_three lk_along (lk_two lk_int lk_int) (lk_two lk_int lk_int)
  · exact True.intro
  · exact True.intro
  · exact lk_two lk_at (lk_two lk_low lk_low)
theorem in100 {i : Int} (h1 : -40 ≤ i) (h2 : i ≤ 40) : In100 i := ⟨by omega, by omega⟩
theorem like_self {n : Nat} {d e : D} {Q : D → Prop} (e1 : d = e) (h : Lk n d) (q : Q (.bl true)) : c_law_like n [d, e] Q := by
  rw [← e1]
  exact like_ok n d Q h q
end DV

namespace DV
open PySem PySem.Spec PyProof.Rows L2
local macro_rules | `(tactic| walk_at "dv") => `(tactic| simp (config := { failIfUnchanged := false, implicitDefEqProofs := false }) only [↓k_for_q, ↓e_for_n, ↓e_for_c, ↓k_sAppend1_q, ↓k_sAppend_q, ↓k_sRetOwn_q, ↓k_sPar2_q, ↓k_sPar_q, ↓k_sPar33_q, ↓k_sPar3_q, ↓k_some_q, ↓k_asI_q, ↓k_asS_q, ↓k_rng1_q, ↓k_one_q, ↓k_rng22_q, ↓k_rng21_q, ↓k_rng2_q, ↓k_two_q, ↓k_non_q, ↓k_no_q, ↓k_sSet_q, ↓k_sAsg_q, ↓k_sAsg2_q, ↓k_sIf_q, ↓k_sDrop_q, ↓k_sOwn_q, ↓k_sFor_q, ↓k_gs_q, ↓k_dOp2_q, ↓k_dOp_q, ↓k_dCh4_q, ↓k_dCh3_q, ↓k_dCh2_q, ↓k_dCh1_q, ↓k_dUn_q, ↓k_dTest_q, ↓k_dAnd_q, ↓k_dOr_q, ↓k_dNot_q, ↓k_dAndV_q, ↓k_dOrV_q, ↓k_dIf_q, ↓k_dCons2_q, ↓k_dCons_q, ↓k_dTup_q, ↓k_dLst_q, ↓k_dCall_q, ↓k_dIsi_q, ↓k_dIsi2_q, ↓k_dSl3_q, ↓k_dSl2_q, ↓k_dSl_q, ↓k_dRev_q, ↓k_dLc_q, ↓k_dB_q, ↓chB_b, ↓tsB_b, ↓dVar_s, ↓ownL_o, ↓ownD_o, ↓roL_l, ↓e_sAppend, ↓e_sRetOwn, ↓two_2, ↓three_3, ↓e_sPar, ↓e_sPar3, ↓asI_i, ↓e_dPart, ↓asS_l, ↓asS_t, ↓e_iSeq, ↓one_1, ↓e_iRng1D, ↓e_iRng2D, ↓wipeD_n, ↓wipeD_c, ↓frz_0, ↓frz_0v, ↓frz_s, ↓e_fnD, ↓e_sSeq, ↓e_sNext, ↓e_sBreak, ↓e_sCont, ↓e_sSet, ↓e_sAsg, ↓e_sAsg2, ↓e_sIf, ↓e_sRet, ↓e_sRetN, ↓e_sDrop, ↓e_sNever, ↓e_sOwn, ↓e_sFrz, ↓e_sFor, ↓e_gN, ↓e_gT_t, ↓e_gsNil_n, ↓e_gsCons_c, ↓e_dVar_0, ↓e_dVar_0t, ↓e_dC, ↓e_dOp, ↓e_dChain, ↓e_dUn, ↓e_dTest, ↓e_dAnd, ↓e_dOr, ↓e_dNot, ↓e_dAndV, ↓e_dOrV, ↓e_dIf, ↓e_dNil, ↓e_dCons, ↓e_dTup, ↓e_dLst, ↓e_dCall, ↓e_dB, ↓e_dIsi, ↓e_dIsi2, ↓e_dSl, ↓e_dRev, ↓e_dNo, ↓e_dYes, ↓e_dLc,
  ↓addD_ii, ↓addD_tt, ↓addD_ll, ↓subD_ii, ↓mulD_ii, ↓fdivD_ii, ↓modD_ii, ↓powD_10_9, ↓powD_10_6, ↓ltA_ii, ↓leA_ii, ↓gtA_ii, ↓geA_ii, ↓ltA_t2, ↓leA_t2, ↓gtA_t2, ↓geA_t2, ↓max2A_ii, ↓min2A_ii, ↓slh4, ↓slt4', ↓max2A_c, ↓min2A_c, ↓revD_l, ↓isNon_n, ↓isNon_t, ↓isNon_l, ↓notNon_n, ↓notNon_t, ↓isBD_bb, ↓negD_i, ↓notD_b, ↓absD_i, ↓intC_i, ↓intC_b, ↓lenD_l, ↓lenD_t, ↓listD_l, ↓listD_t, ↓tupleD_l, ↓tupleD_t, ↓allD_l, ↓anyD_l, ↓ixT0, ↓ixT1, ↓ixT2, ↓ixT3, ↓ixL0, ↓ixL1, ↓ixL2, ↓ixL3, ↓slD_l,
  eqD, neD, notInD, sl0, sl1, sl2, sl3, sl4, sl5, sl6, sl7, sl8, sl9, sl10, sl11, sl12, slt0, slt1, slt2, slt3, slt4, slt5, slt6, slt7, slt8, slt9, slt10, slt11, slt12, lay_i, lay_b, lay_n, lay_t0, lay_l0, lay_t2, lay_t4, eqb_ii, eqb_bb, eqb_ss, eqb_nn, eqb_tt, eqb_ll, eqbs_nn, eqbs_cc, eqbs_nc, eqbs_cn, tyOk_n, tyOk_b, tyOk_i, tyOk_s, tyOk_t, tyOk_l, isi_n, isi_b, isi_i, isi_s, isi_t, isi_l,
  List.map_cons, List.map_nil, List.cons_append, List.nil_append, List.append_nil, List.append_assoc, List.length_cons, List.length_nil, List.getElem?_cons_zero, List.getElem?_cons_succ, List.set_cons_zero, List.set_cons_succ, List.replicate, Nat.reduceAdd, Nat.reduceSub, Nat.zero_add, Nat.reduceLeDiff, Nat.reduceEqDiff,
  if_true, if_false, true_and, and_true, and_self, Bool.not_true, Bool.not_false, Bool.false_eq_true, Bool.and_true, Bool.true_and, Bool.or_false, Bool.false_or, Bool.or_true, Bool.true_or, decide_eq_true_eq, decide_true, decide_false, beq_self_eq_true, beq_iff_eq, String.reduceEq, reduceIte, reduceCtorEq])
local macro_rules | `(tactic| walk_at "dw") => `(tactic| simp (config := { failIfUnchanged := false, implicitDefEqProofs := false }) only [↓k_for_q, ↓k_sAppend1_q, ↓k_sAppend_q, ↓k_sRetOwn_q, ↓k_sPar2_q, ↓k_sPar_q, ↓k_sPar33_q, ↓k_sPar3_q, ↓k_some_q, ↓k_asI_q, ↓k_asS_q, ↓k_rng1_q, ↓k_one_q, ↓k_rng22_q, ↓k_rng21_q, ↓k_rng2_q, ↓k_two_q, ↓k_non_q, ↓k_no_q, ↓k_sSet_q, ↓k_sAsg_q, ↓k_sAsg2_q, ↓k_sIf_q, ↓k_sDrop_q, ↓k_sOwn_q, ↓k_sFor_q, ↓k_gs_q, ↓k_dOp2_q, ↓k_dOp_q, ↓k_dCh4_q, ↓k_dCh3_q, ↓k_dCh2_q, ↓k_dCh1_q, ↓k_dUn_q, ↓k_dTest_q, ↓k_dAnd_q, ↓k_dOr_q, ↓k_dNot_q, ↓k_dAndV_q, ↓k_dOrV_q, ↓k_dIf_q, ↓k_dCons2_q, ↓k_dCons_q, ↓k_dTup_q, ↓k_dLst_q, ↓k_dCall_q, ↓k_dIsi_q, ↓k_dIsi2_q, ↓k_dSl3_q, ↓k_dSl2_q, ↓k_dSl_q, ↓k_dRev_q, ↓k_dLc_q, ↓k_dB_q, ↓chB_b, ↓tsB_b, ↓dVar_s, ↓ownL_o, ↓ownD_o, ↓roL_l, ↓e_sAppend, ↓e_sRetOwn, ↓two_2, ↓three_3, ↓e_sPar, ↓e_sPar3, ↓asI_i, ↓e_dPart, ↓asS_l, ↓asS_t, ↓e_iSeq, ↓one_1, ↓e_iRng1D, ↓e_iRng2D, ↓wipeD_n, ↓wipeD_c, ↓frz_0, ↓frz_0v, ↓frz_s, ↓e_fnD, ↓e_sSeq, ↓e_sNext, ↓e_sBreak, ↓e_sCont, ↓e_sSet, ↓e_sAsg, ↓e_sAsg2, ↓e_sIf, ↓e_sRet, ↓e_sRetN, ↓e_sDrop, ↓e_sNever, ↓e_sOwn, ↓e_sFrz, ↓e_sFor, ↓e_gN, ↓e_gT_t, ↓e_gsNil_n, ↓e_gsCons_c, ↓e_dVar_0, ↓e_dVar_0t, ↓e_dC, ↓e_dOp, ↓e_dChain, ↓e_dUn, ↓e_dTest, ↓e_dAnd, ↓e_dOr, ↓e_dNot, ↓e_dAndV, ↓e_dOrV, ↓e_dIf, ↓e_dNil, ↓e_dCons, ↓e_dTup, ↓e_dLst, ↓e_dCall, ↓e_dB, ↓e_dIsi, ↓e_dIsi2, ↓e_dSl, ↓e_dRev, ↓e_dNo, ↓e_dYes, ↓e_dLc,
  ↓addD_ii, ↓addD_tt, ↓addD_ll, ↓subD_ii, ↓mulD_ii, ↓fdivD_ii, ↓modD_ii, ↓powD_10_9, ↓powD_10_6, ↓ltA_ii, ↓leA_ii, ↓gtA_ii, ↓geA_ii, ↓ltA_t2, ↓leA_t2, ↓gtA_t2, ↓geA_t2, ↓max2A_ii, ↓min2A_ii, ↓slh4, ↓slt4', ↓max2A_c, ↓min2A_c, ↓revD_l, ↓isNon_n, ↓isNon_t, ↓isNon_l, ↓notNon_n, ↓notNon_t, ↓isBD_bb, ↓negD_i, ↓notD_b, ↓absD_i, ↓intC_i, ↓intC_b, ↓lenD_l, ↓lenD_t, ↓listD_l, ↓listD_t, ↓tupleD_l, ↓tupleD_t, ↓allD_l, ↓anyD_l, ↓ixT0, ↓ixT1, ↓ixT2, ↓ixT3, ↓ixL0, ↓ixL1, ↓ixL2, ↓ixL3, ↓slD_l,
  eqD, neD, notInD, sl0, sl1, sl2, sl3, sl4, sl5, sl6, sl7, sl8, sl9, sl10, sl11, sl12, slt0, slt1, slt2, slt3, slt4, slt5, slt6, slt7, slt8, slt9, slt10, slt11, slt12, lay_i, lay_b, lay_n, lay_t0, lay_l0, lay_t2, lay_t4, eqb_ii, eqb_bb, eqb_ss, eqb_nn, eqb_tt, eqb_ll, eqbs_nn, eqbs_cc, eqbs_nc, eqbs_cn, tyOk_n, tyOk_b, tyOk_i, tyOk_s, tyOk_t, tyOk_l, isi_n, isi_b, isi_i, isi_s, isi_t, isi_l,
  List.map_cons, List.map_nil, List.cons_append, List.nil_append, List.append_nil, List.append_assoc, List.length_cons, List.length_nil, List.getElem?_cons_zero, List.getElem?_cons_succ, List.set_cons_zero, List.set_cons_succ, List.replicate, Nat.reduceAdd, Nat.reduceSub, Nat.zero_add, Nat.reduceLeDiff, Nat.reduceEqDiff,
  if_true, if_false, true_and, and_true, and_self, Bool.not_true, Bool.not_false, Bool.false_eq_true, Bool.and_true, Bool.true_and, Bool.or_false, Bool.false_or, Bool.or_true, Bool.true_or, decide_eq_true_eq, decide_true, decide_false, beq_self_eq_true, beq_iff_eq, String.reduceEq, reduceIte, reduceCtorEq])
/-! ### a stroke goes through a square -/
def inX (x dx m p q : Int) : Prop := (2 * m - 1) * q ≤ 2 * x * q + 2 * dx * p ∧ 2 * x * q + 2 * dx * p < (2 * m + 1) * q
def GoesP (a b c d m n : Int) : Prop := ∃ p q : Int, 0 < q ∧ 0 ≤ p ∧ p ≤ q ∧ inX a (c - a) m p q ∧ inX b (d - b) n p q
def geL (n v : Int) (k : Bool) (p q : Int) : Prop := if k = true then n * q ≤ p * v else n * q < p * v
def leH (n v : Int) (k : Bool) (p q : Int) : Prop := if k = true then p * v ≤ n * q else p * v < n * q
theorem mul_le_iff {a b c : Int} (hc : 0 < c) : a * c ≤ b * c ↔ a ≤ b := ⟨fun h => Int.le_of_mul_le_mul_right h hc, fun h => Int.mul_le_mul_of_nonneg_right h (by omega)⟩
theorem mul_lt_iff {a b c : Int} (hc : 0 < c) : a * c < b * c ↔ a < b := ⟨fun h => Int.lt_of_mul_lt_mul_right h (by omega), fun h => Int.mul_lt_mul_of_pos_right h hc⟩
theorem frac_le {n v o u p q : Int} (v0 : 0 < v) (u0 : 0 < u) (r : n * u = o * v) : n * q ≤ p * v ↔ o * q ≤ p * u := by
  rw [← mul_le_iff (a := n * q) u0, ← mul_le_iff (a := o * q) v0, show n * q * u = o * q * v by grind, show p * v * u = p * u * v by grind]
theorem frac_ge {n v o u p q : Int} (v0 : 0 < v) (u0 : 0 < u) (r : n * u = o * v) : p * v ≤ n * q ↔ p * u ≤ o * q := by
  rw [← mul_le_iff (b := n * q) u0, ← mul_le_iff (b := o * q) v0, show n * q * u = o * q * v by grind, show p * v * u = p * u * v by grind]
theorem span_ok {Q : D → Prop} {x dx m : Int} (hx : In100 x) (hd : -200 ≤ dx ∧ dx ≤ 200) (hm : In100 m) (h1 : (∀ p q : Int, 0 < q → ¬inX x dx m p q) → Q .non)
    (h2 : ∀ (n v : Int) (k : Bool) (o w : Int) (l : Bool), 0 < v → 0 < w → Int.gcd n v = 1 → Int.gcd o w = 1 → v ≤ 1000 → w ≤ 1000 → (∀ p q : Int, 0 < q → 0 ≤ p → p ≤ q → (inX x dx m p q ↔ geL n v k p q ∧ leH o w l p q)) → Q (.tup [.tup [.int n, .int v], .bl k, .tup [.int o, .int w], .bl l])) :
    c_span [.int x, .int dx, .int m] Q := by
  unfold In100 at *
  unfold c_span
  walk_at "dv"
  split
  · rename_i e
    subst e
    split
    · rename_i e
      subst e
      refine h2 0 1 true 1 1 true (by decide) (by decide) (by decide) (by decide) (by decide) (by decide) fun p q q0 p0 p1 => ?_
      unfold inX geL leH
      rw [if_pos rfl, if_pos rfl]
      have e1 : (2 * m - 1) * q = 2 * m * q - q := by grind
      have e2 : (2 * m + 1) * q = 2 * m * q + q := by grind
      omega
    · rename_i ne
      refine h1 fun p q q0 h => ?_
      unfold inX at h
      rw [Int.mul_zero, Int.zero_mul, Int.add_zero] at h
      have a1 := (mul_le_iff q0).mp h.1
      have a2 := (mul_lt_iff q0).mp h.2
      omega
  · rename_i ne
    refine ⟨mulOk (by omega), mulOk (by omega), lowest_ok (by omega) (by omega) ?_⟩
    obtain ⟨n, v, e1, v0, r1, -, s1, c1⟩ := lowD_spec (o := 2 * (m - x) - 1) (u := 2 * dx) (by omega)
    rw [e1]
    walk_at "dv"
    refine ⟨mulOk (by omega), mulOk (by omega), lowest_ok (by omega) (by omega) ?_⟩
    obtain ⟨o, w, e2, w0, r2, -, s2, c2⟩ := lowD_spec (o := 2 * (m - x) + 1) (u := 2 * dx) (by omega)
    rw [e2]
    walk_at "dv"
    split
    · rename_i dp
      refine h2 n v true o w false v0 w0 c1 c2 (by omega) (by omega) fun p q q0 p0 p1 => ?_
      have f1 := frac_le (p := p) (q := q) v0 (show 0 < 2 * dx by omega) r1
      have f2 := frac_le (p := p) (q := q) w0 (show 0 < 2 * dx by omega) r2
      unfold inX geL leH
      rw [if_pos rfl, if_neg (by decide)]
      rw [show (2 * (m - x) - 1) * q = 2 * (m * q) - 2 * (x * q) - q by grind, show p * (2 * dx) = 2 * (dx * p) by grind] at f1
      rw [show (2 * (m - x) + 1) * q = 2 * (m * q) - 2 * (x * q) + q by grind, show p * (2 * dx) = 2 * (dx * p) by grind] at f2
      rw [show (2 * m - 1) * q = 2 * (m * q) - q by grind, show (2 * m + 1) * q = 2 * (m * q) + q by grind, show 2 * x * q = 2 * (x * q) by grind, show 2 * dx * p = 2 * (dx * p) by grind]
      omega
    · rename_i dp
      refine h2 o w false n v true w0 v0 c2 c1 (by omega) (by omega) fun p q q0 p0 p1 => ?_
      have f1 := frac_ge (n := n) (o := -(2 * (m - x) - 1)) (p := p) (q := q) v0 (show 0 < -(2 * dx) by omega) (by grind)
      have f2 := frac_ge (n := o) (o := -(2 * (m - x) + 1)) (p := p) (q := q) w0 (show 0 < -(2 * dx) by omega) (by grind)
      unfold inX geL leH
      rw [if_pos rfl, if_neg (by decide)]
      rw [show -(2 * (m - x) - 1) * q = -(2 * (m * q)) + 2 * (x * q) + q by grind, show p * -(2 * dx) = -(2 * (dx * p)) by grind] at f1
      rw [show -(2 * (m - x) + 1) * q = -(2 * (m * q)) + 2 * (x * q) - q by grind, show p * -(2 * dx) = -(2 * (dx * p)) by grind] at f2
      rw [show (2 * m - 1) * q = 2 * (m * q) - q by grind, show (2 * m + 1) * q = 2 * (m * q) + q by grind, show 2 * x * q = 2 * (x * q) by grind, show 2 * dx * p = 2 * (dx * p) by grind]
      omega
theorem forD_rest {g : DG} {b : DS} {N : DN} (I : List D → List Slot → Prop) : ∀ (ds : List D) (ρ : List Slot), I ds ρ →
    (∀ (d : D) (ds : List D) (ρ : List Slot) (M : DN), I (d :: ds) ρ → (∀ ρ', I ds ρ' → M.nx ρ') → (∀ ρ', I ds ρ' → M.ct ρ') → M.rt = N.rt → M.bk = N.nx → g d ρ (fun ρ' => b M ρ')) → (∀ ρ, I [] ρ → N.nx ρ) → forD g b N ds ρ
  | [], ρ, h, _, e => e ρ h
  | d :: ds, ρ, h, s, e => s d ds ρ _ h (fun ρ' h' => forD_rest I ds ρ' h' s e) (fun ρ' h' => forD_rest I ds ρ' h' s e) rfl rfl
/-! what stands between two bounds -/
theorem cmp_le {n v w p q : Int} (w0 : 0 < w) : n * q ≤ p * v ↔ n * w * q ≤ p * v * w := by rw [← mul_le_iff (a := n * q) w0, show n * q * w = n * w * q by grind]
theorem cmp_lt {n v w p q : Int} (w0 : 0 < w) : n * q < p * v ↔ n * w * q < p * v * w := by rw [← mul_lt_iff (a := n * q) w0, show n * q * w = n * w * q by grind]
theorem cmp_ge {n v w p q : Int} (w0 : 0 < w) : p * v ≤ n * q ↔ p * v * w ≤ n * w * q := by rw [← mul_le_iff (b := n * q) w0, show n * q * w = n * w * q by grind]
theorem cmp_gt {n v w p q : Int} (w0 : 0 < w) : p * v < n * q ↔ p * v * w < n * w * q := by rw [← mul_lt_iff (b := n * q) w0, show n * q * w = n * w * q by grind]
theorem geL_upd {n v n2 v2 : Int} {k k2 : Bool} {p q : Int} (q0 : 0 < q) (v0 : 0 < v) (w0 : 0 < v2) (h : n * v2 < n2 * v ∨ (n * v2 = n2 * v ∧ k2 = false)) : (geL n v k p q ∧ geL n2 v2 k2 p q) ↔ geL n2 v2 k2 p q := by
  unfold geL
  rw [cmp_le (n := n) (v := v) w0, cmp_lt (n := n) (v := v) w0, cmp_le (n := n2) (v := v2) v0, cmp_lt (n := n2) (v := v2) v0, show p * v2 * v = p * v * v2 by grind]
  have f1 := mul_lt_iff (a := n * v2) (b := n2 * v) q0
  have f2 : n * v2 = n2 * v → n * v2 * q = n2 * v * q := fun e => by rw [e]
  generalize n * v2 * q = A at *
  generalize n2 * v * q = B at *
  generalize p * v * v2 = T at *
  cases k <;> cases k2 <;> simp only [if_true, if_false, Bool.false_eq_true, reduceCtorEq, and_false, or_false, and_true, reduceIte] at * <;> omega
theorem geL_stay {n v n2 v2 : Int} {k k2 : Bool} {p q : Int} (q0 : 0 < q) (v0 : 0 < v) (w0 : 0 < v2) (h1 : ¬n * v2 < n2 * v) (h2 : ¬(n * v2 = n2 * v ∧ k2 = false)) : (geL n v k p q ∧ geL n2 v2 k2 p q) ↔ geL n v k p q := by
  unfold geL
  rw [cmp_le (n := n) (v := v) w0, cmp_lt (n := n) (v := v) w0, cmp_le (n := n2) (v := v2) v0, cmp_lt (n := n2) (v := v2) v0, show p * v2 * v = p * v * v2 by grind]
  have f1 := mul_lt_iff (a := n2 * v) (b := n * v2) q0
  have f2 : n * v2 = n2 * v → n * v2 * q = n2 * v * q := fun e => by rw [e]
  generalize n * v2 * q = A at *
  generalize n2 * v * q = B at *
  generalize p * v * v2 = T at *
  cases k <;> cases k2 <;> simp only [if_true, if_false, Bool.false_eq_true, reduceCtorEq, and_false, and_true, reduceIte] at * <;> omega
theorem leH_upd {n v n2 v2 : Int} {k k2 : Bool} {p q : Int} (q0 : 0 < q) (v0 : 0 < v) (w0 : 0 < v2) (h : n2 * v < n * v2 ∨ (n * v2 = n2 * v ∧ k2 = false)) : (leH n v k p q ∧ leH n2 v2 k2 p q) ↔ leH n2 v2 k2 p q := by
  unfold leH
  rw [cmp_ge (n := n) (v := v) w0, cmp_gt (n := n) (v := v) w0, cmp_ge (n := n2) (v := v2) v0, cmp_gt (n := n2) (v := v2) v0, show p * v2 * v = p * v * v2 by grind]
  have f1 := mul_lt_iff (a := n2 * v) (b := n * v2) q0
  have f2 : n * v2 = n2 * v → n * v2 * q = n2 * v * q := fun e => by rw [e]
  generalize n * v2 * q = A at *
  generalize n2 * v * q = B at *
  generalize p * v * v2 = T at *
  cases k <;> cases k2 <;> simp only [if_true, if_false, Bool.false_eq_true, reduceCtorEq, and_false, or_false, and_true, reduceIte] at * <;> omega
theorem leH_stay {n v n2 v2 : Int} {k k2 : Bool} {p q : Int} (q0 : 0 < q) (v0 : 0 < v) (w0 : 0 < v2) (h1 : ¬n2 * v < n * v2) (h2 : ¬(n * v2 = n2 * v ∧ k2 = false)) : (leH n v k p q ∧ leH n2 v2 k2 p q) ↔ leH n v k p q := by
  unfold leH
  rw [cmp_ge (n := n) (v := v) w0, cmp_gt (n := n) (v := v) w0, cmp_ge (n := n2) (v := v2) v0, cmp_gt (n := n2) (v := v2) v0, show p * v2 * v = p * v * v2 by grind]
  have f1 := mul_lt_iff (a := n * v2) (b := n2 * v) q0
  have f2 : n * v2 = n2 * v → n * v2 * q = n2 * v * q := fun e => by rw [e]
  generalize n * v2 * q = A at *
  generalize n2 * v * q = B at *
  generalize p * v * v2 = T at *
  cases k <;> cases k2 <;> simp only [if_true, if_false, Bool.false_eq_true, reduceCtorEq, and_false, and_true, reduceIte] at * <;> omega
theorem between {n v m w : Int} {k l : Bool} (v0 : 0 < v) (w0 : 0 < w) : (∃ p q : Int, 0 < q ∧ geL n v k p q ∧ leH m w l p q) ↔ (n * w < m * v ∨ (n * w = m * v ∧ k = true ∧ l = true)) := by
  constructor
  · rintro ⟨p, q, q0, h1, h2⟩
    unfold geL at h1
    unfold leH at h2
    rw [cmp_le (n := n) (v := v) w0, cmp_lt (n := n) (v := v) w0] at h1
    rw [cmp_ge (n := m) (v := w) v0, cmp_gt (n := m) (v := w) v0, show p * w * v = p * v * w by grind] at h2
    have f1 := mul_lt_iff (a := n * w) (b := m * v) q0
    have f2 := mul_lt_iff (a := m * v) (b := n * w) q0
    generalize n * w * q = A at *
    generalize m * v * q = B at *
    generalize p * v * w = T at *
    cases k <;> cases l <;> simp only [if_true, if_false, Bool.false_eq_true, reduceCtorEq, and_false, or_false, and_true, reduceIte] at * <;> omega
  · rintro (h | ⟨h, rfl, rfl⟩)
    · refine ⟨n * w + m * v, 2 * (v * w), by have := Int.mul_pos v0 w0; omega, ?_, ?_⟩
      · have : n * (2 * (v * w)) < (n * w + m * v) * v := by
          rw [show n * (2 * (v * w)) = (2 * (n * w)) * v by grind, mul_lt_iff v0]
          omega
        unfold geL
        split
        · omega
        · exact this
      · have : (n * w + m * v) * w < m * (2 * (v * w)) := by
          rw [show m * (2 * (v * w)) = (2 * (m * v)) * w by grind, mul_lt_iff w0]
          omega
        unfold leH
        split
        · omega
        · exact this
    · refine ⟨n, v, v0, ?_, ?_⟩
      · unfold geL
        rw [if_pos rfl]
        omega
      · unfold leH
        rw [if_pos rfl]
        omega
def GoesI (a b c d m n : Int) (Q : D → Prop) (rem : List D) (ρ : List Slot) : Prop :=
  ∃ (n1 v1 : Int) (k1 : Bool) (n2 v2 : Int) (k2 : Bool) (s10 s11 s12 s13 : Slot),
    ρ = [.v (.tup [.int a, .int b, .int c, .int d]), .v (.tup [.int m, .int n]), .v (.bl k1), .v (.bl k2), .v (.int a), .v (.int b), .v (.int c), .v (.int d), .v (.tup [.int n1, .int v1]), .v (.tup [.int n2, .int v2]), s10, s11, s12, s13]
    ∧ 0 < v1 ∧ 0 < v2 ∧ v1 ≤ 1000 ∧ v2 ≤ 1000 ∧ Int.gcd n1 v1 = 1 ∧ Int.gcd n2 v2 = 1
    ∧ (∀ p q : Int, 0 < q → geL n1 v1 k1 p q → leH n2 v2 k2 p q → 0 ≤ p ∧ p ≤ q)
    ∧ ∃ ax : List (Int × Int × Int), rem = ax.map (fun x => .tup [.int x.1, .int x.2.1, .int x.2.2]) ∧ (∀ x ∈ ax, In100 x.1 ∧ (-200 ≤ x.2.1 ∧ x.2.1 ≤ 200) ∧ In100 x.2.2)
      ∧ ∀ p q : Int, 0 < q → 0 ≤ p → p ≤ q → ((inX a (c - a) m p q ∧ inX b (d - b) n p q) ↔ (geL n1 v1 k1 p q ∧ leH n2 v2 k2 p q ∧ ∀ x ∈ ax, inX x.1 x.2.1 x.2.2 p q))
theorem goes_ok {Q : D → Prop} {a b c d m n : Int} (ha : In100 a) (hb : In100 b) (hc : In100 c) (hd : In100 d) (hm : In100 m) (hn : In100 n) (hq : ∀ r : Bool, (r = true ↔ GoesP a b c d m n) → Q (.bl r)) : c_goes [.tup [.int a, .int b, .int c, .int d], .tup [.int m, .int n]] Q := by
  unfold c_goes
  walk_at "dw"
  refine forD_rest (GoesI a b c d m n Q) _ _ ?_ ?_ ?_
  · refine ⟨0, 1, true, 1, 1, true, _, _, _, _, rfl, by decide, by decide, by decide, by decide, by decide, by decide, ?_, [(a, c - a, m), (b, d - b, n)], rfl, ?_, ?_⟩
    · intro p q q0 h1 h2
      unfold geL at h1
      unfold leH at h2
      rw [if_pos rfl] at h1 h2
      omega
    · intro x hx
      simp only [List.mem_cons, List.not_mem_nil, or_false] at hx
      unfold In100 at *
      rcases hx with rfl | rfl <;> dsimp only
      · exact ⟨⟨by omega, by omega⟩, ⟨by omega, by omega⟩, ⟨by omega, by omega⟩⟩
      · exact ⟨⟨by omega, by omega⟩, ⟨by omega, by omega⟩, ⟨by omega, by omega⟩⟩
    · intro p q q0 p0 p1
      unfold geL leH
      rw [if_pos rfl, if_pos rfl]
      simp only [List.mem_cons, List.not_mem_nil, or_false, forall_eq_or_imp, forall_eq]
      constructor
      · exact fun z => ⟨by omega, by omega, z.1, z.2⟩
      · exact fun z => ⟨z.2.2.1, z.2.2.2⟩
  · rintro d0 ds ρ M ⟨n1, v1, k1, n2, v2, k2, s10, s11, s12, s13, rfl, v10, v20, b1, b2, g1, g2, hI, ax, hr, hx, hP⟩ hnx hct hrt hbk
    rcases ax with _ | ⟨⟨x, dx, mm⟩, ax⟩
    · exact absurd hr (by simp)
    rw [List.map_cons, List.cons.injEq] at hr
    obtain ⟨rfl, rfl⟩ := hr
    walk_at "dw"
    have hx0 := hx _ List.mem_cons_self
    refine span_ok hx0.1 hx0.2.1 hx0.2.2 ?_ ?_
    · intro h0
      walk_at "dw"
      rw [hrt]
      walk_at "dw"
      refine hq false ⟨fun z => by simp at z, ?_⟩
      rintro ⟨p, q, q0, p0, p1, i1, i2⟩
      exact absurd (((hP p q q0 p0 p1).mp ⟨i1, i2⟩).2.2 _ List.mem_cons_self) (h0 p q q0)
    · intro n3 v3 k3 n4 v4 k4 v30 v40 g3 g4 b3 b4 hS
      walk_at "dw"
      have Lq : (n1 = n3 ∧ v1 = v3) ↔ n1 * v3 = n3 * v1 := ⟨fun z => by rw [z.1, z.2], fun z => cop_eq v10 v30 g1 g3 z⟩
      have Hq : (n2 = n4 ∧ v2 = v4) ↔ n2 * v4 = n4 * v2 := ⟨fun z => by rw [z.1, z.2], fun z => cop_eq v20 v40 g2 g4 z⟩
      have fin : ∀ (n5 v5 : Int) (k5 : Bool) (n6 v6 : Int) (k6 : Bool) (t10 t11 t12 t13 : Slot), 0 < v5 → 0 < v6 → v5 ≤ 1000 → v6 ≤ 1000 → Int.gcd n5 v5 = 1 → Int.gcd n6 v6 = 1 →
          (∀ p q : Int, 0 < q → ((geL n1 v1 k1 p q ∧ geL n3 v3 k3 p q) ↔ geL n5 v5 k5 p q)) → (∀ p q : Int, 0 < q → ((leH n2 v2 k2 p q ∧ leH n4 v4 k4 p q) ↔ leH n6 v6 k6 p q)) →
          M.nx [.v (.tup [.int a, .int b, .int c, .int d]), .v (.tup [.int m, .int n]), .v (.bl k5), .v (.bl k6), .v (.int a), .v (.int b), .v (.int c), .v (.int d), .v (.tup [.int n5, .int v5]), .v (.tup [.int n6, .int v6]), t10, t11, t12, t13] :=
        fun n5 v5 k5 n6 v6 k6 t10 t11 t12 t13 q1 q2 q3 q4 q5 q6 L H => hnx _ ⟨n5, v5, k5, n6, v6, k6, t10, t11, t12, t13, rfl, q1, q2, q3, q4, q5, q6, fun p q q0 h1 h2 => hI p q q0 ((L p q q0).mpr h1).1 ((H p q q0).mpr h2).1, ax, rfl, fun y hy => hx y (List.mem_cons_of_mem _ hy), fun p q q0 p0 p1 => by
          have e1 := hP p q q0 p0 p1
          have e2 := hS p q q0 p0 p1
          have e3 := L p q q0
          have e4 := H p q q0
          rw [List.forall_mem_cons] at e1
          dsimp only at e1
          rw [e2] at e1
          rw [e1, ← e3, ← e4]
          constructor
          · exact fun z => ⟨⟨z.1, z.2.2.1.1⟩, ⟨z.2.1, z.2.2.1.2⟩, z.2.2.2⟩
          · exact fun z => ⟨z.1.1, z.2.1.1, ⟨z.1.2, z.2.1.2⟩, z.2.2⟩⟩
      refine below_ok (by omega) (by omega) ?_
      walk_at "dw"
      simp only [Bool.and_eq_true, beq_iff_eq, Bool.not_eq_true']
      have high : ∀ (n5 v5 : Int) (k5 : Bool) (t10 t11 t12 t13 : Slot), 0 < v5 → v5 ≤ 1000 → Int.gcd n5 v5 = 1 → (∀ p q : Int, 0 < q → ((geL n1 v1 k1 p q ∧ geL n3 v3 k3 p q) ↔ geL n5 v5 k5 p q)) →
          (if n4 * v2 < n2 * v4 then M.nx [.v (.tup [.int a, .int b, .int c, .int d]), .v (.tup [.int m, .int n]), .v (.bl k5), .v (.bl k4), .v (.int a), .v (.int b), .v (.int c), .v (.int d), .v (.tup [.int n5, .int v5]), .v (.tup [.int n4, .int v4]), t10, t11, t12, t13]
           else if n2 = n4 ∧ v2 = v4 then (if k4 = false then M.nx [.v (.tup [.int a, .int b, .int c, .int d]), .v (.tup [.int m, .int n]), .v (.bl k5), .v (.bl k4), .v (.int a), .v (.int b), .v (.int c), .v (.int d), .v (.tup [.int n5, .int v5]), .v (.tup [.int n4, .int v4]), t10, t11, t12, t13]
             else M.nx [.v (.tup [.int a, .int b, .int c, .int d]), .v (.tup [.int m, .int n]), .v (.bl k5), .v (.bl k2), .v (.int a), .v (.int b), .v (.int c), .v (.int d), .v (.tup [.int n5, .int v5]), .v (.tup [.int n2, .int v2]), t10, t11, t12, t13])
           else M.nx [.v (.tup [.int a, .int b, .int c, .int d]), .v (.tup [.int m, .int n]), .v (.bl k5), .v (.bl k2), .v (.int a), .v (.int b), .v (.int c), .v (.int d), .v (.tup [.int n5, .int v5]), .v (.tup [.int n2, .int v2]), t10, t11, t12, t13]) := by
        intro n5 v5 k5 t10 t11 t12 t13 q1 q3 q5 L
        split
        · rename_i h
          exact fin _ _ _ _ _ _ _ _ _ _ q1 v40 q3 b4 q5 g4 L fun p q q0 => leH_upd q0 v20 v40 (.inl h)
        rename_i h1
        split
        · rename_i h2
          split
          · rename_i h3
            exact fin _ _ _ _ _ _ _ _ _ _ q1 v40 q3 b4 q5 g4 L fun p q q0 => leH_upd q0 v20 v40 (.inr ⟨Hq.mp h2, h3⟩)
          · rename_i h3
            exact fin _ _ _ _ _ _ _ _ _ _ q1 v20 q3 b2 q5 g2 L fun p q q0 => leH_stay q0 v20 v40 h1 fun z => h3 z.2
        · rename_i h2
          exact fin _ _ _ _ _ _ _ _ _ _ q1 v20 q3 b2 q5 g2 L fun p q q0 => leH_stay q0 v20 v40 h1 fun z => h2 (Hq.mpr z.1)
      split
      · rename_i h
        refine below_ok (by omega) (by omega) ?_
        walk_at "dw"
        simp only [Bool.and_eq_true, beq_iff_eq, Bool.not_eq_true']
        exact high _ _ _ _ _ _ _ v30 b3 g3 fun p q q0 => geL_upd q0 v10 v30 (.inl h)
      rename_i h1
      split
      · rename_i h2
        split
        · rename_i h3
          refine below_ok (by omega) (by omega) ?_
          walk_at "dw"
          simp only [Bool.and_eq_true, beq_iff_eq, Bool.not_eq_true']
          exact high _ _ _ _ _ _ _ v30 b3 g3 fun p q q0 => geL_upd q0 v10 v30 (.inr ⟨Lq.mp h2, h3⟩)
        · rename_i h3
          refine below_ok (by omega) (by omega) ?_
          walk_at "dw"
          simp only [Bool.and_eq_true, beq_iff_eq, Bool.not_eq_true']
          exact high _ _ _ _ _ _ _ v10 b1 g1 fun p q q0 => geL_stay q0 v10 v30 h1 fun z => h3 z.2
      · rename_i h2
        refine below_ok (by omega) (by omega) ?_
        walk_at "dw"
        simp only [Bool.and_eq_true, beq_iff_eq, Bool.not_eq_true']
        exact high _ _ _ _ _ _ _ v10 b1 g1 fun p q q0 => geL_stay q0 v10 v30 h1 fun z => h2 (Lq.mpr z.1)
  · rintro ρ ⟨n1, v1, k1, n2, v2, k2, s10, s11, s12, s13, rfl, v10, v20, b1, b2, g1, g2, hI, ax, hr, hx, hP⟩
    walk_at "dw"
    refine below_ok (by omega) (by omega) ?_
    walk_at "dw"
    obtain rfl : ax = [] := by
      cases ax with
      | nil => rfl
      | cons _ _ => simp at hr
    have key : GoesP a b c d m n ↔ (n1 * v2 < n2 * v1 ∨ (n1 * v2 = n2 * v1 ∧ k1 = true ∧ k2 = true)) := by
      rw [← between v10 v20]
      constructor
      · rintro ⟨p, q, q0, p0, p1, i1, i2⟩
        have := (hP p q q0 p0 p1).mp ⟨i1, i2⟩
        exact ⟨p, q, q0, this.1, this.2.1⟩
      · rintro ⟨p, q, q0, h1, h2⟩
        have h3 := hI p q q0 h1 h2
        have := (hP p q q0 h3.1 h3.2).mpr ⟨h1, h2, by simp⟩
        exact ⟨p, q, q0, h3.1, h3.2, this.1, this.2⟩
    have Lq : (n1 = n2 ∧ v1 = v2) ↔ n1 * v2 = n2 * v1 := ⟨fun z => by rw [z.1, z.2], fun z => cop_eq v10 v20 g1 g2 z⟩
    simp only [Bool.and_eq_true, beq_iff_eq]
    split
    · rename_i h
      exact hq true ⟨fun _ => key.mpr (.inl h), fun _ => rfl⟩
    rename_i h1
    split
    · rename_i h2
      split
      · rename_i h3
        refine hq k2 ⟨fun z => key.mpr (.inr ⟨Lq.mp h2, h3, z⟩), fun z => (key.mp z).elim (fun z => absurd z h1) fun z => z.2.2⟩
      · rename_i h3
        refine hq false ⟨fun z => by simp at z, fun z => (key.mp z).elim (fun z => absurd z h1) fun z => absurd z.2.1 h3⟩
    · rename_i h2
      refine hq false ⟨fun z => by simp at z, fun z => (key.mp z).elim (fun z => absurd z h1) fun z => absurd (Lq.mpr z.1) h2⟩
theorem goesP_r {a b c d m n : Int} : GoesP c d a b m n ↔ GoesP a b c d m n := by
  have key : ∀ a b c d : Int, GoesP a b c d m n → GoesP c d a b m n := by
    rintro a b c d ⟨p, q, q0, p0, p1, i1, i2⟩
    refine ⟨q - p, q, q0, by omega, by omega, ?_, ?_⟩
    · unfold inX at *
      rw [show 2 * c * q + 2 * (a - c) * (q - p) = 2 * a * q + 2 * (c - a) * p by grind]
      exact i1
    · unfold inX at *
      rw [show 2 * d * q + 2 * (b - d) * (q - p) = 2 * b * q + 2 * (d - b) * p by grind]
      exact i2
  exact ⟨key _ _ _ _, key _ _ _ _⟩
end DV

namespace DV
open PySem PySem.Spec PyProof.Rows L2
local macro_rules | `(tactic| walk_at "dv") => `(tactic| simp (config := { failIfUnchanged := false, implicitDefEqProofs := false }) only [↓k_for_q, ↓e_for_n, ↓e_for_c, ↓k_sAppend1_q, ↓k_sAppend_q, ↓k_sRetOwn_q, ↓k_sPar2_q, ↓k_sPar_q, ↓k_sPar33_q, ↓k_sPar3_q, ↓k_some_q, ↓k_asI_q, ↓k_asS_q, ↓k_rng1_q, ↓k_one_q, ↓k_rng22_q, ↓k_rng21_q, ↓k_rng2_q, ↓k_two_q, ↓k_non_q, ↓k_no_q, ↓k_sSet_q, ↓k_sAsg_q, ↓k_sAsg2_q, ↓k_sIf_q, ↓k_sDrop_q, ↓k_sOwn_q, ↓k_sFor_q, ↓k_gs_q, ↓k_dOp2_q, ↓k_dOp_q, ↓k_dCh4_q, ↓k_dCh3_q, ↓k_dCh2_q, ↓k_dCh1_q, ↓k_dUn_q, ↓k_dTest_q, ↓k_dAnd_q, ↓k_dOr_q, ↓k_dNot_q, ↓k_dAndV_q, ↓k_dOrV_q, ↓k_dIf_q, ↓k_dCons2_q, ↓k_dCons_q, ↓k_dTup_q, ↓k_dLst_q, ↓k_dCall_q, ↓k_dIsi_q, ↓k_dIsi2_q, ↓k_dSl3_q, ↓k_dSl2_q, ↓k_dSl_q, ↓k_dRev_q, ↓k_dLc_q, ↓k_dB_q, ↓chB_b, ↓tsB_b, ↓dVar_s, ↓ownL_o, ↓ownD_o, ↓roL_l, ↓e_sAppend, ↓e_sRetOwn, ↓two_2, ↓three_3, ↓e_sPar, ↓e_sPar3, ↓asI_i, ↓e_dPart, ↓asS_l, ↓asS_t, ↓e_iSeq, ↓one_1, ↓e_iRng1D, ↓e_iRng2D, ↓wipeD_n, ↓wipeD_c, ↓frz_0, ↓frz_0v, ↓frz_s, ↓e_fnD, ↓e_sSeq, ↓e_sNext, ↓e_sBreak, ↓e_sCont, ↓e_sSet, ↓e_sAsg, ↓e_sAsg2, ↓e_sIf, ↓e_sRet, ↓e_sRetN, ↓e_sDrop, ↓e_sNever, ↓e_sOwn, ↓e_sFrz, ↓e_sFor, ↓e_gN, ↓e_gT_t, ↓e_gsNil_n, ↓e_gsCons_c, ↓e_dVar_0, ↓e_dVar_0t, ↓e_dC, ↓e_dOp, ↓e_dChain, ↓e_dUn, ↓e_dTest, ↓e_dAnd, ↓e_dOr, ↓e_dNot, ↓e_dAndV, ↓e_dOrV, ↓e_dIf, ↓e_dNil, ↓e_dCons, ↓e_dTup, ↓e_dLst, ↓e_dCall, ↓e_dB, ↓e_dIsi, ↓e_dIsi2, ↓e_dSl, ↓e_dRev, ↓e_dNo, ↓e_dYes, ↓e_dLc,
  ↓addD_ii, ↓addD_tt, ↓addD_ll, ↓subD_ii, ↓mulD_ii, ↓fdivD_ii, ↓modD_ii, ↓powD_10_9, ↓powD_10_6, ↓ltA_ii, ↓leA_ii, ↓gtA_ii, ↓geA_ii, ↓ltA_t2, ↓leA_t2, ↓gtA_t2, ↓geA_t2, ↓max2A_ii, ↓min2A_ii, ↓slh4, ↓slt4', ↓max2A_c, ↓min2A_c, ↓revD_l, ↓isNon_n, ↓isNon_t, ↓isNon_l, ↓notNon_n, ↓notNon_t, ↓isBD_bb, ↓negD_i, ↓notD_b, ↓absD_i, ↓intC_i, ↓intC_b, ↓lenD_l, ↓lenD_t, ↓listD_l, ↓listD_t, ↓tupleD_l, ↓tupleD_t, ↓allD_l, ↓anyD_l, ↓ixT0, ↓ixT1, ↓ixT2, ↓ixT3, ↓ixL0, ↓ixL1, ↓ixL2, ↓ixL3, ↓slD_l,
  eqD, neD, notInD, sl0, sl1, sl2, sl3, sl4, sl5, sl6, sl7, sl8, sl9, sl10, sl11, sl12, slt0, slt1, slt2, slt3, slt4, slt5, slt6, slt7, slt8, slt9, slt10, slt11, slt12, lay_i, lay_b, lay_n, lay_t0, lay_l0, lay_t2, lay_t4, eqb_ii, eqb_bb, eqb_ss, eqb_nn, eqb_tt, eqb_ll, eqbs_nn, eqbs_cc, eqbs_nc, eqbs_cn, tyOk_n, tyOk_b, tyOk_i, tyOk_s, tyOk_t, tyOk_l, isi_n, isi_b, isi_i, isi_s, isi_t, isi_l,
  List.map_cons, List.map_nil, List.cons_append, List.nil_append, List.append_nil, List.append_assoc, List.length_cons, List.length_nil, List.getElem?_cons_zero, List.getElem?_cons_succ, List.set_cons_zero, List.set_cons_succ, List.replicate, Nat.reduceAdd, Nat.reduceSub, Nat.zero_add, Nat.reduceLeDiff, Nat.reduceEqDiff,
  if_true, if_false, true_and, and_true, and_self, Bool.not_true, Bool.not_false, Bool.false_eq_true, Bool.and_true, Bool.true_and, Bool.or_false, Bool.false_or, Bool.or_true, Bool.true_or, decide_eq_true_eq, decide_true, decide_false, beq_self_eq_true, beq_iff_eq, String.reduceEq, reduceIte, reduceCtorEq])

/-! ### the law's own clipping -/
def cloX (x dx m p q : Int) : Prop := (2 * m - 1) * q ≤ 2 * x * q + 2 * dx * p ∧ 2 * x * q + 2 * dx * p ≤ (2 * m + 1) * q
theorem law_clip_ok {Q : D → Prop} {x dx m : Int} (h1 : (∀ p q : Int, 0 < q → ¬cloX x dx m p q) → Q (.lst []))
    (h2 : ∀ n v o w : Int, 0 < v → 0 < w → v ≤ 2 * dx.natAbs + 1 → w ≤ 2 * dx.natAbs + 1 → (∀ p q : Int, 0 < q → 0 ≤ p → p ≤ q → (cloX x dx m p q ↔ geL n v true p q ∧ leH o w true p q)) → Q (.lst [.tup [.int n, .int v], .tup [.int o, .int w]])) :
    c_law_clip [.int (2 * x), .int (2 * dx), .int (2 * m - 1), .int (2 * m + 1)] Q := by
  unfold c_law_clip
  walk_at "dv"
  split
  · rename_i e
    have e : dx = 0 := by omega
    subst e
    have out : ¬(2 * m - 1 ≤ 2 * x ∧ 2 * x ≤ 2 * m + 1) → Q (.lst []) := by
      intro ne
      refine h1 fun p q q0 h => ?_
      unfold cloX at h
      rw [Int.mul_zero, Int.zero_mul, Int.add_zero] at h
      exact ne ⟨(mul_le_iff q0).mp h.1, (mul_le_iff q0).mp h.2⟩
    split
    · rename_i i1
      split
      · rename_i i2
        refine h2 0 1 1 1 (by decide) (by decide) (by decide) (by decide) fun p q q0 p0 p1 => ?_
        unfold cloX geL leH
        rw [if_pos rfl, if_pos rfl, Int.mul_zero, Int.zero_mul, Int.add_zero, mul_le_iff q0, mul_le_iff q0]
        omega
      · rename_i i2
        exact out fun z => i2 z.2
    · rename_i i1
      exact out fun z => i1 z.1
  · rename_i ne
    split
    · rename_i dn
      refine h2 _ _ _ _ (by omega) (by omega) (by omega) (by omega) fun p q q0 p0 p1 => ?_
      unfold cloX geL leH
      rw [if_pos rfl, if_pos rfl]
      rw [show (2 * x - (2 * m + 1)) * q = 2 * (x * q) - 2 * (m * q) - q by grind, show (2 * x - (2 * m - 1)) * q = 2 * (x * q) - 2 * (m * q) + q by grind, show p * (0 - 2 * dx) = -(2 * (dx * p)) by grind,
        show (2 * m - 1) * q = 2 * (m * q) - q by grind, show (2 * m + 1) * q = 2 * (m * q) + q by grind, show 2 * x * q = 2 * (x * q) by grind, show 2 * dx * p = 2 * (dx * p) by grind]
      omega
    · rename_i dn
      refine h2 _ _ _ _ (by omega) (by omega) (by omega) (by omega) fun p q q0 p0 p1 => ?_
      unfold cloX geL leH
      rw [if_pos rfl, if_pos rfl]
      rw [show (2 * m - 1 - 2 * x) * q = 2 * (m * q) - 2 * (x * q) - q by grind, show (2 * m + 1 - 2 * x) * q = 2 * (m * q) - 2 * (x * q) + q by grind, show p * (2 * dx) = 2 * (dx * p) by grind,
        show (2 * m - 1) * q = 2 * (m * q) - q by grind, show (2 * m + 1) * q = 2 * (m * q) + q by grind, show 2 * x * q = 2 * (x * q) by grind, show 2 * dx * p = 2 * (dx * p) by grind]
      omega
theorem law_later_ok {Q : D → Prop} {a b c d : Int} (hb : b ≤ 1000) (hd : d ≤ 1000) (b0 : 0 < b) (d0 : 0 < d) (h : ∀ n v : Int, 0 < v → v ≤ 1000 → (∀ p q : Int, 0 < q → (geL n v true p q ↔ geL a b true p q ∧ geL c d true p q)) → Q (.tup [.int n, .int v])) : c_law_later [.tup [.int a, .int b], .tup [.int c, .int d]] Q := by
  unfold c_law_later
  walk_at "dv"
  refine ⟨mulOk (by omega), mulOk (by omega), ?_⟩
  split
  · rename_i g
    refine h _ _ b0 hb fun p q q0 => ?_
    rw [and_comm]
    exact (geL_upd q0 d0 b0 (.inl g)).symm
  · rename_i g
    refine h _ _ d0 hd fun p q q0 => ?_
    rw [and_comm]
    exact (geL_stay q0 d0 b0 g fun z => by simp at z).symm
theorem law_sooner_ok {Q : D → Prop} {a b c d : Int} (hb : b ≤ 1000) (hd : d ≤ 1000) (b0 : 0 < b) (d0 : 0 < d) (h : ∀ n v : Int, 0 < v → v ≤ 1000 → (∀ p q : Int, 0 < q → (leH n v true p q ↔ leH a b true p q ∧ leH c d true p q)) → Q (.tup [.int n, .int v])) : c_law_sooner [.tup [.int a, .int b], .tup [.int c, .int d]] Q := by
  unfold c_law_sooner
  walk_at "dv"
  refine ⟨mulOk (by omega), mulOk (by omega), ?_⟩
  split
  · rename_i g
    refine h _ _ b0 hb fun p q q0 => ?_
    rw [and_comm]
    exact (leH_upd q0 d0 b0 (.inl g)).symm
  · rename_i g
    refine h _ _ d0 hd fun p q q0 => ?_
    rw [and_comm]
    exact (leH_stay q0 d0 b0 g fun z => by simp at z).symm
theorem law_inside_ok {Q : D → Prop} {a b c d m n p q : Int} (ha : In100 a) (hb : In100 b) (hc : In100 c) (hd : In100 d) (hm : In100 m) (hn : In100 n) (hq : ∀ r : Bool, (r = true ↔ (inX a (c - a) m p q ∧ inX b (d - b) n p q)) → Q (.bl r)) : c_law_inside [.tup [.int a, .int b, .int c, .int d], .tup [.int p, .int q], .tup [.int m, .int n]] Q := by
  unfold In100 at *
  unfold c_law_inside
  walk_at "dv"
  repeat' (first | split | refine and_mul ?_ ?_)
  all_goals first
    | omega
    | (refine hq _ ?_
       unfold inX
       simp only [decide_eq_true_eq, Bool.false_eq_true, false_iff]
       omega)
theorem no_both {α β l u h w p q : Int} (u0 : 0 < u) (w0 : 0 < w) (g1 : α * u = β * l) (g2 : α * w = β * h) (b1 : l * q ≤ p * u) (b2 : p * w ≤ h * q) (g3 : β * p < α * q) : False := by
  have k1 : 0 < β * (l * q - p * u) := by
    have := Int.mul_pos (show 0 < α * q - β * p by omega) u0
    have e : (α * q - β * p) * u = β * (l * q - p * u) := by grind
    omega
  have k2 : 0 < β * (h * q - p * w) := by
    have := Int.mul_pos (show 0 < α * q - β * p by omega) w0
    have e : (α * q - β * p) * w = β * (h * q - p * w) := by grind
    omega
  rcases Int.lt_or_le β 0 with h1 | h1
  · have := Int.mul_nonneg (show 0 ≤ -β by omega) (show 0 ≤ h * q - p * w by omega)
    rw [Int.neg_mul] at this
    omega
  · have := Int.mul_nonneg h1 (show 0 ≤ p * u - l * q by omega)
    have e : β * (l * q - p * u) = -(β * (p * u - l * q)) := by grind
    omega
theorem mid_in {x dx m l u h w p q : Int} (u0 : 0 < u) (w0 : 0 < w) (q0 : 0 < q) (c1 : cloX x dx m l u) (c2 : cloX x dx m h w) (b1 : l * q ≤ p * u) (b2 : p * w ≤ h * q) (i : inX x dx m p q) : inX x dx m (l * w + h * u) (2 * u * w) := by
  unfold cloX at c1 c2
  unfold inX at *
  have e2 : 2 * x * (2 * u * w) + 2 * dx * (l * w + h * u) = (2 * x * u + 2 * dx * l) * w + (2 * x * w + 2 * dx * h) * u := by grind
  constructor
  · have h1 := Int.mul_le_mul_of_nonneg_right c1.1 (show 0 ≤ w by omega)
    have h2 := Int.mul_le_mul_of_nonneg_right c2.1 (show 0 ≤ u by omega)
    have e1 : (2 * m - 1) * (2 * u * w) = (2 * m - 1) * u * w + (2 * m - 1) * w * u := by grind
    rw [e1, e2]
    omega
  · have h1 := Int.mul_le_mul_of_nonneg_right c1.2 (show 0 ≤ w by omega)
    have h2 := Int.mul_le_mul_of_nonneg_right c2.2 (show 0 ≤ u by omega)
    have e1 : (2 * m + 1) * (2 * u * w) = (2 * m + 1) * u * w + (2 * m + 1) * w * u := by grind
    rw [e1, e2]
    rcases Int.lt_or_le ((2 * x * u + 2 * dx * l) * w + (2 * x * w + 2 * dx * h) * u) ((2 * m + 1) * u * w + (2 * m + 1) * w * u) with z | z
    · exact z
    · exfalso
      have z1 : (2 * x * u + 2 * dx * l) = (2 * m + 1) * u := Int.eq_of_mul_eq_mul_right (a := w) (by omega) (by omega)
      have z2 : (2 * x * w + 2 * dx * h) = (2 * m + 1) * w := Int.eq_of_mul_eq_mul_right (a := u) (by omega) (by omega)
      exact no_both (α := 2 * m + 1 - 2 * x) (β := 2 * dx) u0 w0 (by grind) (by grind) b1 b2 (by have := i.2; grind)
theorem law_goes_ok {Q : D → Prop} {a b c d m n : Int} (ha : In100 a) (hb : In100 b) (hc : In100 c) (hd : In100 d) (hm : In100 m) (hn : In100 n) (hq : ∀ r : Bool, (r = true ↔ GoesP a b c d m n) → Q (.bl r)) : c_law_goes [.tup [.int a, .int b, .int c, .int d], .tup [.int m, .int n]] Q := by
  have inc : ∀ x dx mm p q : Int, inX x dx mm p q → cloX x dx mm p q := fun x dx mm p q z => ⟨z.1, Int.le_of_lt z.2⟩
  unfold c_law_goes
  have ha' := ha
  have hb' := hb
  have hc' := hc
  have hd' := hd
  have hm' := hm
  have hn' := hn
  unfold In100 at ha' hb' hc' hd' hm' hn'
  walk_at "dv"
  refine ⟨mulOk (by omega), mulOk (by omega), mulOk (by omega), mulOk (by omega), law_clip_ok ?_ ?_⟩
  · intro no
    walk_at "dv"
    refine ⟨mulOk (by omega), mulOk (by omega), mulOk (by omega), mulOk (by omega), law_clip_ok ?_ ?_⟩
    · intro no2
      walk_at "dv"
      exact hq false ⟨fun z => by simp at z, fun ⟨p, q, q0, p0, p1, i1, i2⟩ => absurd (inc _ _ _ _ _ i1) (no p q q0)⟩
    · intro n3 v3 n4 v4 v30 v40 b3 b4 hS
      walk_at "dv"
      exact hq false ⟨fun z => by simp at z, fun ⟨p, q, q0, p0, p1, i1, i2⟩ => absurd (inc _ _ _ _ _ i1) (no p q q0)⟩
  · intro n1 v1 n2 v2 v10 v20 b1 b2 hR
    walk_at "dv"
    refine ⟨mulOk (by omega), mulOk (by omega), mulOk (by omega), mulOk (by omega), law_clip_ok ?_ ?_⟩
    · intro no2
      walk_at "dv"
      exact ⟨by rfl, hq false ⟨fun z => by simp at z, fun ⟨p, q, q0, p0, p1, i1, i2⟩ => absurd (inc _ _ _ _ _ i2) (no2 p q q0)⟩⟩
    · intro n3 v3 n4 v4 v30 v40 b3 b4 hS
      walk_at "dv"
      refine ⟨by rfl, by rfl, law_later_ok (by omega) (by omega) v10 v30 fun n5 v5 v50 b5 h5 => ?_⟩
      walk_at "dv"
      refine law_later_ok (by decide) b5 (by decide) v50 fun l u u0 bu hl => ?_
      walk_at "dv"
      refine law_sooner_ok (by omega) (by omega) v20 v40 fun n6 v6 v60 b6 h6 => ?_
      walk_at "dv"
      refine law_sooner_ok (by decide) b6 (by decide) v60 fun h w w0 bw hh => ?_
      walk_at "dv"
      have hA : ∀ p q : Int, 0 < q → ((0 ≤ p ∧ p ≤ q ∧ cloX a (c - a) m p q ∧ cloX b (d - b) n p q) ↔ (geL l u true p q ∧ leH h w true p q)) := by
        intro p q q0
        rw [hl p q q0, hh p q q0, h5 p q q0, h6 p q q0]
        have g0 : geL 0 1 true p q ↔ 0 ≤ p := by
          unfold geL
          rw [if_pos rfl]
          omega
        have g1 : leH 1 1 true p q ↔ p ≤ q := by
          unfold leH
          rw [if_pos rfl]
          omega
        rw [g0, g1]
        constructor
        · rintro ⟨p0, p1, x1, x2⟩
          have y1 := (hR p q q0 p0 p1).mp x1
          have y2 := (hS p q q0 p0 p1).mp x2
          exact ⟨⟨p0, y1.1, y2.1⟩, p1, y1.2, y2.2⟩
        · rintro ⟨⟨p0, y1, y2⟩, p1, y3, y4⟩
          exact ⟨p0, p1, (hR p q q0 p0 p1).mpr ⟨y1, y3⟩, (hS p q q0 p0 p1).mpr ⟨y2, y4⟩⟩
      refine ⟨mulOk (by omega), mulOk (by omega), ?_⟩
      split
      · rename_i lt
        refine hq false ⟨fun z => by simp at z, fun ⟨p, q, q0, p0, p1, i1, i2⟩ => ?_⟩
        have := (between u0 w0).mp ⟨p, q, q0, (hA p q q0).mp ⟨p0, p1, inc _ _ _ _ _ i1, inc _ _ _ _ _ i2⟩⟩
        omega
      · rename_i ge
        refine ⟨mulOk (by omega), mulOk (by omega), mulOk (by omega), mulOk (by omega), ?_⟩
        simp only [lcD, dYes]
        walk_at "dv"
        have SA := (hA l u u0).mpr ⟨by unfold geL; rw [if_pos rfl]; omega, by unfold leH; rw [if_pos rfl]; omega⟩
        have SB := (hA h w w0).mpr ⟨by unfold geL; rw [if_pos rfl]; omega, by unfold leH; rw [if_pos rfl]; omega⟩
        have m0 : 0 < 2 * u * w := Int.mul_pos (by omega) w0
        have SM := (hA (l * w + h * u) (2 * u * w) m0).mpr ⟨by
          unfold geL
          rw [if_pos rfl, show l * (2 * u * w) = (2 * (l * w)) * u by grind, mul_le_iff u0]
          omega, by
          unfold leH
          rw [if_pos rfl, show h * (2 * u * w) = (2 * (h * u)) * w by grind, mul_le_iff w0]
          omega⟩
        refine law_inside_ok ha hb hc hd hm hn fun r1 f1 => ?_
        refine law_inside_ok ha hb hc hd hm hn fun r2 f2 => ?_
        refine law_inside_ok ha hb hc hd hm hn fun r3 f3 => ⟨by rfl, hq _ ?_⟩
        show (r1 || (r2 || (r3 || false))) = true ↔ _
        simp only [Bool.or_false, Bool.or_eq_true, f1, f2, f3]
        constructor
        · rintro (z | z | z)
          · exact ⟨l, u, u0, SA.1, SA.2.1, z.1, z.2⟩
          · exact ⟨h, w, w0, SB.1, SB.2.1, z.1, z.2⟩
          · exact ⟨_, _, m0, SM.1, SM.2.1, z.1, z.2⟩
        · rintro ⟨p, q, q0, p0, p1, i1, i2⟩
          have t := (hA p q q0).mp ⟨p0, p1, inc _ _ _ _ _ i1, inc _ _ _ _ _ i2⟩
          have t1 := t.1
          have t2 := t.2
          unfold geL at t1
          unfold leH at t2
          rw [if_pos rfl] at t1 t2
          exact .inr (.inr ⟨mid_in u0 w0 q0 SA.2.2.1 SB.2.2.1 t1 t2 i1, mid_in u0 w0 q0 SA.2.2.2 SB.2.2.2 t1 t2 i2⟩)
theorem law_near_spot_ok {Q : D → Prop} {s : D} (hs : StrokeOk s) (h : ∀ d, SpotOk d → Q d) : c_law_near_spot [.bag, s] Q := by
  obtain ⟨a, b, c, d, rfl, a0, a1, b0, b1, c0, c1, d0, d1, nn⟩ := hs
  unfold c_law_near_spot
  walk_at "dv"
  refine pull_ok (by decide) (by decide) fun k k0 k1 => ?_
  walk_at "dv"
  refine ⟨mulOk (by omega), divOk (by decide) (by decide), mulOk (by omega), divOk (by decide) (by decide), ?_⟩
  refine pull_ok (by decide) (by decide) fun k2 k20 k21 => ?_
  walk_at "dv"
  refine law_clipped_ok ?_
  walk_at "dv"
  refine pull_ok (by decide) (by decide) fun k3 k30 k31 => ?_
  walk_at "dv"
  refine law_clipped_ok ?_
  walk_at "dv"
  exact h _ ⟨_, _, rfl, clp_b.1, clp_b.2, clp_b.1, clp_b.2⟩
theorem law_slanted_ok {Q : D → Prop} (h : ∀ d, StrokeOk d → Q d) : c_law_slanted [.bag] Q := by
  unfold c_law_slanted
  walk_at "dv"
  refine law_base_ok fun d0 hd0 => ?_
  obtain ⟨bx, b_y, rfl, b1, b2, b3, b4⟩ := hd0
  walk_at "dv"
  refine law_of_ok (by simp) fun d1 hd1 => ?_
  obtain ⟨x, y, rfl, x1, x2⟩ : ∃ x y : Int, d1 = .tup [.int x, .int y] ∧ x.natAbs ≤ 10 ∧ y.natAbs ≤ 10 := by
    simp only [List.mem_cons, List.not_mem_nil, or_false] at hd1
    rcases hd1 with rfl | rfl | rfl | rfl | rfl | rfl | rfl | rfl <;> exact ⟨_, _, rfl, by decide, by decide⟩
  walk_at "dv"
  refine pull_ok (by decide) (by decide) fun k k0 k1 => ?_
  walk_at "dv"
  refine pull_ok (by decide) (by decide) fun k2 k20 k21 => ?_
  walk_at "dv"
  refine law_clipped_ok ?_
  walk_at "dv"
  refine pull_ok (by decide) (by decide) fun k3 k30 k31 => ?_
  walk_at "dv"
  refine law_clipped_ok ?_
  walk_at "dv"
  refine ⟨mulOk (by omega), law_clipped_ok ?_⟩
  walk_at "dv"
  refine ⟨mulOk (by omega), law_clipped_ok ?_⟩
  walk_at "dv"
  have g1 := clp_b (i := bx + k2)
  have g2 := clp_b (i := b_y + k3)
  have g3 := clp_b (i := clp (bx + k2) + x * (1 + k))
  have g4 := clp_b (i := clp (b_y + k3) + y * (1 + k))
  generalize clp (clp (bx + k2) + x * (1 + k)) = p at *
  generalize clp (clp (b_y + k3) + y * (1 + k)) = q at *
  generalize clp (bx + k2) = r at *
  generalize clp (b_y + k3) = s at *
  simp only [Bool.not_eq_true', Bool.and_eq_false_imp, beq_iff_eq, beq_eq_false_iff_ne]
  split
  · exact ⟨by simp, h _ ⟨_, _, _, _, rfl, by omega, by omega, by omega, by omega, by omega, by omega, by omega, by omega, by omega⟩⟩
  · exact h _ ⟨_, _, _, _, rfl, by decide, by decide, by decide, by decide, by decide, by decide, by decide, by decide, by decide⟩
end DV

namespace DV
open PySem PySem.Spec PyProof.Rows L2
local macro_rules | `(tactic| walk_at "dv") => `(tactic| simp (config := { failIfUnchanged := false, implicitDefEqProofs := false }) only [↓k_for_q, ↓e_for_n, ↓e_for_c, ↓k_sAppend1_q, ↓k_sAppend_q, ↓k_sRetOwn_q, ↓k_sPar2_q, ↓k_sPar_q, ↓k_sPar33_q, ↓k_sPar3_q, ↓k_some_q, ↓k_asI_q, ↓k_asS_q, ↓k_rng1_q, ↓k_one_q, ↓k_rng22_q, ↓k_rng21_q, ↓k_rng2_q, ↓k_two_q, ↓k_non_q, ↓k_no_q, ↓k_sSet_q, ↓k_sAsg_q, ↓k_sAsg2_q, ↓k_sIf_q, ↓k_sDrop_q, ↓k_sOwn_q, ↓k_sFor_q, ↓k_gs_q, ↓k_dOp2_q, ↓k_dOp_q, ↓k_dCh4_q, ↓k_dCh3_q, ↓k_dCh2_q, ↓k_dCh1_q, ↓k_dUn_q, ↓k_dTest_q, ↓k_dAnd_q, ↓k_dOr_q, ↓k_dNot_q, ↓k_dAndV_q, ↓k_dOrV_q, ↓k_dIf_q, ↓k_dCons2_q, ↓k_dCons_q, ↓k_dTup_q, ↓k_dLst_q, ↓k_dCall_q, ↓k_dIsi_q, ↓k_dIsi2_q, ↓k_dSl3_q, ↓k_dSl2_q, ↓k_dSl_q, ↓k_dRev_q, ↓k_dLc_q, ↓k_dB_q, ↓chB_b, ↓tsB_b, ↓dVar_s, ↓ownL_o, ↓ownD_o, ↓roL_l, ↓e_sAppend, ↓e_sRetOwn, ↓two_2, ↓three_3, ↓e_sPar, ↓e_sPar3, ↓asI_i, ↓e_dPart, ↓asS_l, ↓asS_t, ↓e_iSeq, ↓one_1, ↓e_iRng1D, ↓e_iRng2D, ↓wipeD_n, ↓wipeD_c, ↓frz_0, ↓frz_0v, ↓frz_s, ↓e_fnD, ↓e_sSeq, ↓e_sNext, ↓e_sBreak, ↓e_sCont, ↓e_sSet, ↓e_sAsg, ↓e_sAsg2, ↓e_sIf, ↓e_sRet, ↓e_sRetN, ↓e_sDrop, ↓e_sNever, ↓e_sOwn, ↓e_sFrz, ↓e_sFor, ↓e_gN, ↓e_gT_t, ↓e_gsNil_n, ↓e_gsCons_c, ↓e_dVar_0, ↓e_dVar_0t, ↓e_dC, ↓e_dOp, ↓e_dChain, ↓e_dUn, ↓e_dTest, ↓e_dAnd, ↓e_dOr, ↓e_dNot, ↓e_dAndV, ↓e_dOrV, ↓e_dIf, ↓e_dNil, ↓e_dCons, ↓e_dTup, ↓e_dLst, ↓e_dCall, ↓e_dB, ↓e_dIsi, ↓e_dIsi2, ↓e_dSl, ↓e_dRev, ↓e_dNo, ↓e_dYes, ↓e_dLc,
  ↓addD_ii, ↓addD_tt, ↓addD_ll, ↓subD_ii, ↓mulD_ii, ↓fdivD_ii, ↓modD_ii, ↓powD_10_9, ↓powD_10_6, ↓ltA_ii, ↓leA_ii, ↓gtA_ii, ↓geA_ii, ↓ltA_t2, ↓leA_t2, ↓gtA_t2, ↓geA_t2, ↓max2A_ii, ↓min2A_ii, ↓slh4, ↓slt4', ↓max2A_c, ↓min2A_c, ↓revD_l, ↓isNon_n, ↓isNon_t, ↓isNon_l, ↓notNon_n, ↓notNon_t, ↓isBD_bb, ↓negD_i, ↓notD_b, ↓absD_i, ↓intC_i, ↓intC_b, ↓lenD_l, ↓lenD_t, ↓listD_l, ↓listD_t, ↓tupleD_l, ↓tupleD_t, ↓allD_l, ↓anyD_l, ↓ixT0, ↓ixT1, ↓ixT2, ↓ixT3, ↓ixL0, ↓ixL1, ↓ixL2, ↓ixL3, ↓slD_l,
  eqD, neD, notInD, sl0, sl1, sl2, sl3, sl4, sl5, sl6, sl7, sl8, sl9, sl10, sl11, sl12, slt0, slt1, slt2, slt3, slt4, slt5, slt6, slt7, slt8, slt9, slt10, slt11, slt12, lay_i, lay_b, lay_n, lay_t0, lay_l0, lay_t2, lay_t4, eqb_ii, eqb_bb, eqb_ss, eqb_nn, eqb_tt, eqb_ll, eqbs_nn, eqbs_cc, eqbs_nc, eqbs_cn, tyOk_n, tyOk_b, tyOk_i, tyOk_s, tyOk_t, tyOk_l, isi_n, isi_b, isi_i, isi_s, isi_t, isi_l,
  List.map_cons, List.map_nil, List.cons_append, List.nil_append, List.append_nil, List.append_assoc, List.length_cons, List.length_nil, List.getElem?_cons_zero, List.getElem?_cons_succ, List.set_cons_zero, List.set_cons_succ, List.replicate, Nat.reduceAdd, Nat.reduceSub, Nat.zero_add, Nat.reduceLeDiff, Nat.reduceEqDiff,
  if_true, if_false, true_and, and_true, and_self, Bool.not_true, Bool.not_false, Bool.false_eq_true, Bool.and_true, Bool.true_and, Bool.or_false, Bool.false_or, Bool.or_true, Bool.true_or, decide_eq_true_eq, decide_true, decide_false, beq_self_eq_true, beq_iff_eq, String.reduceEq, reduceIte, reduceCtorEq])
/-! ### places and their squares -/
theorem inX_mono {x dx m m' p q p' q' : Int} (q0 : 0 < q) (q1 : 0 < q') (hd : 0 ≤ dx) (t : p * q' ≤ p' * q) (h : inX x dx m p q) (h' : inX x dx m' p' q') : m ≤ m' := by
  unfold inX at *
  have k1 := Int.mul_le_mul_of_nonneg_right h.1 (show 0 ≤ q' by omega)
  have k2 := Int.mul_lt_mul_of_pos_right h'.2 q0
  have k3 := Int.mul_le_mul_of_nonneg_left t hd
  have e1 : (2 * x * q + 2 * dx * p) * q' = 2 * x * q * q' + 2 * (dx * (p * q')) := by grind
  have e2 : (2 * x * q' + 2 * dx * p') * q = 2 * x * q * q' + 2 * (dx * (p' * q)) := by grind
  have k4 : (2 * m - 1) * (q * q') < (2 * m' + 1) * (q * q') := by
    have f1 : (2 * m - 1) * q * q' = (2 * m - 1) * (q * q') := by grind
    have f2 : (2 * m' + 1) * q' * q = (2 * m' + 1) * (q * q') := by grind
    omega
  have := (mul_lt_iff (Int.mul_pos q0 q1)).mp k4
  omega
theorem inX_anti {x dx m m' p q p' q' : Int} (q0 : 0 < q) (q1 : 0 < q') (hd : dx ≤ 0) (t : p * q' ≤ p' * q) (h : inX x dx m p q) (h' : inX x dx m' p' q') : m' ≤ m := by
  unfold inX at *
  have k1 := Int.mul_le_mul_of_nonneg_right h'.1 (show 0 ≤ q by omega)
  have k2 := Int.mul_lt_mul_of_pos_right h.2 q1
  have k3 := Int.mul_le_mul_of_nonneg_left t (show 0 ≤ -dx by omega)
  rw [Int.neg_mul, Int.neg_mul] at k3
  have e1 : (2 * x * q + 2 * dx * p) * q' = 2 * x * q * q' + 2 * (dx * (p * q')) := by grind
  have e2 : (2 * x * q' + 2 * dx * p') * q = 2 * x * q * q' + 2 * (dx * (p' * q)) := by grind
  have k4 : (2 * m' - 1) * (q * q') < (2 * m + 1) * (q * q') := by
    have f1 : (2 * m' - 1) * q' * q = (2 * m' - 1) * (q * q') := by grind
    have f2 : (2 * m + 1) * q * q' = (2 * m + 1) * (q * q') := by grind
    omega
  have := (mul_lt_iff (Int.mul_pos q0 q1)).mp k4
  omega
/-- the number of the square -/
def sq (x dx p q : Int) : Int := (2 * x * q + 2 * dx * p + q) / (2 * q)
theorem sq_in {x dx p q : Int} (q0 : 0 < q) : inX x dx (sq x dx p q) p q := by
  unfold inX sq
  have h1 := Int.emod_nonneg (2 * x * q + 2 * dx * p + q) (b := 2 * q) (by omega)
  have h2 := Int.emod_lt_of_pos (2 * x * q + 2 * dx * p + q) (b := 2 * q) (by omega)
  have h3 := Int.mul_ediv_add_emod (2 * x * q + 2 * dx * p + q) (2 * q)
  generalize (2 * x * q + 2 * dx * p + q) / (2 * q) = n at *
  have e1 : (2 * n - 1) * q = 2 * q * n - q := by grind
  have e2 : (2 * n + 1) * q = 2 * q * n + q := by grind
  omega
theorem inX_uniq {x dx m m' p q : Int} (q0 : 0 < q) (h : inX x dx m p q) (h' : inX x dx m' p q) : m = m' := by
  unfold inX at *
  have k1 : (2 * m - 1) * q < (2 * m' + 1) * q := by omega
  have k2 : (2 * m' - 1) * q < (2 * m + 1) * q := by omega
  have := (mul_lt_iff q0).mp k1
  have := (mul_lt_iff q0).mp k2
  omega
/-- a step that moves less than one goes at most one square on -/
theorem inX_step {x dx m m' p q p' : Int} (q0 : 0 < q) (hs : (dx * (p' - p)).natAbs < q) (h : inX x dx m p q) (h' : inX x dx m' p' q) : m' ≤ m + 1 ∧ m ≤ m' + 1 := by
  unfold inX at *
  have e : 2 * dx * p' = 2 * dx * p + 2 * (dx * (p' - p)) := by grind
  have k1 : (2 * m' - 1) * q < (2 * m + 3) * q := by
    have : (2 * m + 3) * q = (2 * m + 1) * q + 2 * q := by grind
    omega
  have k2 : (2 * m - 3) * q < (2 * m' + 1) * q := by
    have : (2 * m - 3) * q = (2 * m - 1) * q - 2 * q := by grind
    omega
  have := (mul_lt_iff q0).mp k1
  have := (mul_lt_iff q0).mp k2
  omega
def Ahead (dx m m' : Int) : Prop := (0 ≤ dx → m ≤ m') ∧ (dx ≤ 0 → m' ≤ m)
theorem inX_ahead {x dx m m' p q p' q' : Int} (q0 : 0 < q) (q1 : 0 < q') (t : p * q' ≤ p' * q) (h : inX x dx m p q) (h' : inX x dx m' p' q') : Ahead dx m m' := ⟨fun hd => inX_mono q0 q1 hd t h h', fun hd => inX_anti q0 q1 hd t h h'⟩
theorem goes_comp {a b c d m n m' n' : Int} (h : GoesP a b c d m n) (h' : GoesP a b c d m' n') : (Ahead (c - a) m m' ∧ Ahead (d - b) n n') ∨ (Ahead (c - a) m' m ∧ Ahead (d - b) n' n) := by
  obtain ⟨p, q, q0, -, -, i1, i2⟩ := h
  obtain ⟨p', q', q1, -, -, j1, j2⟩ := h'
  rcases Int.le_total (p * q') (p' * q) with t | t
  · exact .inl ⟨inX_ahead q0 q1 t i1 j1, inX_ahead q0 q1 t i2 j2⟩
  · exact .inr ⟨inX_ahead q1 q0 t j1 i1, inX_ahead q1 q0 t j2 i2⟩
theorem first_out {f : Nat → Prop} : ∀ n : Nat, f 0 → ¬f n → ∃ k, k < n ∧ f k ∧ ¬f (k + 1)
  | 0, h, h' => absurd h h'
  | n + 1, h, h' => by
    by_cases g : f n
    · exact ⟨n, by omega, g, h'⟩
    · obtain ⟨k, h1, h2, h3⟩ := first_out n h g
      exact ⟨k, by omega, h2, h3⟩
theorem inX_scale {x dx m p q : Int} (h : inX x dx m p q) : inX x dx m (1000 * p) (1000 * q) := by
  unfold inX at *
  have e1 : (2 * m - 1) * (1000 * q) = 1000 * ((2 * m - 1) * q) := by grind
  have e2 : (2 * m + 1) * (1000 * q) = 1000 * ((2 * m + 1) * q) := by grind
  have e3 : 2 * x * (1000 * q) + 2 * dx * (1000 * p) = 1000 * (2 * x * q + 2 * dx * p) := by grind
  omega
theorem inX_end {x c q : Int} (q0 : 0 < q) : inX x (c - x) c q q := by
  unfold inX
  have e1 : 2 * x * q + 2 * (c - x) * q = 2 * (c * q) := by grind
  have e2 : (2 * c - 1) * q = 2 * (c * q) - q := by grind
  have e3 : (2 * c + 1) * q = 2 * (c * q) + q := by grind
  omega
theorem next_goes {a b c d m n : Int} (ha : In100 a) (hb : In100 b) (hc : In100 c) (hd : In100 d) (h : GoesP a b c d m n) (ne : ¬(m = c ∧ n = d)) :
    ∃ m' n' : Int, GoesP a b c d m' n' ∧ ¬(m' = m ∧ n' = n) ∧ Ahead (c - a) m m' ∧ Ahead (d - b) n n' ∧ (m' ≤ m + 1 ∧ m ≤ m' + 1) ∧ (n' ≤ n + 1 ∧ n ≤ n' + 1) := by
  unfold In100 at *
  obtain ⟨p, q, q0, p0, p1, i1, i2⟩ := h
  obtain ⟨k, k1, ⟨f1, f2⟩, g⟩ := first_out (f := fun k => inX a (c - a) m (1000 * p + (q - p) * k) (1000 * q) ∧ inX b (d - b) n (1000 * p + (q - p) * k) (1000 * q)) 1000
    (by simpa using ⟨inX_scale i1, inX_scale i2⟩) (fun z => ne (by
      have e : 1000 * p + (q - p) * ((1000 : Nat) : Int) = 1000 * q := by omega
      rw [e] at z
      exact ⟨inX_uniq (by omega) z.1 (inX_end (by omega)), inX_uniq (by omega) z.2 (inX_end (by omega))⟩))
  have Q0 : 0 < 1000 * q := by omega
  have kq : (q - p) * (k : Int) ≤ (q - p) * 999 := Int.mul_le_mul_of_nonneg_left (by omega) (by omega)
  have kn : 0 ≤ (q - p) * (k : Int) := Int.mul_nonneg (by omega) (by omega)
  have es : (q - p) * ((k + 1 : Nat) : Int) = (q - p) * k + (q - p) := by rw [Int.natCast_add]; grind
  generalize hA : 1000 * p + (q - p) * (k : Int) = A at *
  have hB : 1000 * p + (q - p) * ((k + 1 : Nat) : Int) = A + (q - p) := by omega
  rw [hB] at g
  have s1 : ((c - a) * (A + (q - p) - A)).natAbs < 1000 * q := by
    have := prod_b (i := c - a) (j := A + (q - p) - A) (m := 200) (n := q.toNat) (by omega) (by omega)
    omega
  have s2 : ((d - b) * (A + (q - p) - A)).natAbs < 1000 * q := by
    have := prod_b (i := d - b) (j := A + (q - p) - A) (m := 200) (n := q.toNat) (by omega) (by omega)
    omega
  have t : A * (1000 * q) ≤ (A + (q - p)) * (1000 * q) := Int.mul_le_mul_of_nonneg_right (by omega) (by omega)
  have u1 := sq_in (x := a) (dx := c - a) (p := A + (q - p)) Q0
  have u2 := sq_in (x := b) (dx := d - b) (p := A + (q - p)) Q0
  refine ⟨_, _, ⟨A + (q - p), 1000 * q, Q0, by omega, by omega, u1, u2⟩, fun z => g ?_, inX_ahead Q0 Q0 t f1 u1, inX_ahead Q0 Q0 t f2 u2, inX_step Q0 s1 f1 u1, inX_step Q0 s2 f2 u2⟩
  rw [z.1] at u1
  rw [z.2] at u2
  exact ⟨u1, u2⟩
/-! ### all squares of a stroke -/
theorem lcD_filter {g : DG} {tt : DT} {te : DE} {ρ : List Slot} (f : D → Bool) : ∀ (ds acc : List D) (Q : D → Prop),
    (∀ d ∈ ds, ∀ Q1 : D → Prop, ∀ P : Prop, (f d = true → Q1 d) → (f d = false → P) → g d ρ fun ρ2 => tt ρ2 fun b => if b = true then te ρ2 Q1 else P) →
    acc.length + ds.length ≤ sizeLine → Q (.lst (acc ++ ds.filter f)) → lcD g tt te ρ ds acc Q
  | [], acc, Q, _, _, q => by
    rw [List.filter_nil, List.append_nil] at q
    exact q
  | d :: ds, acc, Q, h, hl, q => by
    have hl' : acc.length + (ds.length + 1) ≤ sizeLine := hl
    refine h d List.mem_cons_self (fun y => acc.length < sizeLine ∧ lcD g tt te ρ ds (acc ++ [y]) Q) _ (fun e => ⟨by omega, ?_⟩) fun e => ?_
    · refine lcD_filter f ds (acc ++ [d]) Q (fun d hd => h d (List.mem_cons_of_mem _ hd)) (by rw [List.length_append]; show acc.length + 1 + ds.length ≤ sizeLine; omega) ?_
      rw [List.filter_cons, if_pos e] at q
      rw [List.append_assoc]
      exact q
    · refine lcD_filter f ds acc Q (fun d hd => h d (List.mem_cons_of_mem _ hd)) (by omega) ?_
      rw [List.filter_cons, if_neg (by rw [e]; decide)] at q
      exact q
def tp (s : Int × Int) : D := .tup [.int s.1, .int s.2]
abbrev Sp2 := Int × Int
def Bef (a b c d : Int) (s t : Sp2) : Prop := Ahead (c - a) s.1 t.1 ∧ Ahead (d - b) s.2 t.2 ∧ ¬(t.1 = s.1 ∧ t.2 = s.2)
theorem Ahead.antis {dx m n : Int} (h : Ahead dx m n) (h' : Ahead dx n m) : m = n := by
  unfold Ahead at *
  rcases Int.le_total 0 dx with z | z
  · have := h.1 z; have := h'.1 z; omega
  · have := h.2 z; have := h'.2 z; omega
theorem Ahead.trans {dx m n o : Int} (h : Ahead dx m n) (h' : Ahead dx n o) : Ahead dx m o := by
  unfold Ahead at *
  exact ⟨fun z => Int.le_trans (h.1 z) (h'.1 z), fun z => Int.le_trans (h'.2 z) (h.2 z)⟩
theorem Ahead.refl {dx m : Int} : Ahead dx m m := ⟨fun _ => Int.le_refl _, fun _ => Int.le_refl _⟩
theorem Bef.asym {a b c d : Int} {s t : Sp2} (h : Bef a b c d s t) (h' : Bef a b c d t s) : False := h.2.2 ⟨(h.1.antis h'.1).symm, (h.2.1.antis h'.2.1).symm⟩
theorem Bef.trans {a b c d : Int} {s t u : Sp2} (h : Bef a b c d s t) (h' : Bef a b c d t u) : Bef a b c d s u := ⟨h.1.trans h'.1, h.2.1.trans h'.2.1, fun z => by
  have e1 : u = s := Prod.ext z.1 z.2
  subst e1
  exact h.asym h'⟩
theorem goes_total {a b c d : Int} {s t : Sp2} (h : GoesP a b c d s.1 s.2) (h' : GoesP a b c d t.1 t.2) : s = t ∨ Bef a b c d s t ∨ Bef a b c d t s := by
  by_cases e : s = t
  · exact .inl e
  · refine .inr ((goes_comp h h').imp (fun z => ⟨z.1, z.2, fun q => e (Prod.ext q.1.symm q.2.symm)⟩) fun z => ⟨z.1, z.2, fun q => e (Prod.ext q.1 q.2)⟩)
def Near1 (s t : Sp2) : Prop := (t.1 ≤ s.1 + 1 ∧ s.1 ≤ t.1 + 1) ∧ (t.2 ≤ s.2 + 1 ∧ s.2 ≤ t.2 + 1)
/-- the list of all squares in order along the stroke -/
structure SqOk (a b c d : Int) (L : List Sp2) : Prop where
  mem : ∀ s : Sp2, s ∈ L ↔ GoesP a b c d s.1 s.2
  ord : L.Pairwise (Bef a b c d)
  one : ∀ (i : Nat) (s t : Sp2), L[i]? = some s → L[i + 1]? = some t → Near1 s t
  hd : L.head? = some (a, b)
  lst : L.getLast? = some (c, d)
  few : L.length ≤ 402
theorem sorted_uniq {α : Type} {r : α → α → Prop} (as : ∀ x y, r x y → r y x → False) : ∀ {l l' : List α}, l.Pairwise r → l'.Pairwise r → (∀ x, x ∈ l ↔ x ∈ l') → l = l'
  | [], [], _, _, _ => rfl
  | [], y :: l', _, _, h => by have := (h y).mpr List.mem_cons_self; cases this
  | x :: l, [], _, _, h => by have := (h x).mp List.mem_cons_self; cases this
  | x :: l, y :: l', p, p', h => by
    have q := List.pairwise_cons.mp p
    have q' := List.pairwise_cons.mp p'
    have e : x = y := by
      rcases List.mem_cons.mp ((h x).mp List.mem_cons_self) with e | e
      · exact e
      · rcases List.mem_cons.mp ((h y).mpr List.mem_cons_self) with f | f
        · exact f.symm
        · exact (as _ _ (q'.1 x e) (q.1 y f)).elim
    subst e
    have nx : x ∉ l := fun z => as _ _ (q.1 x z) (q.1 x z)
    have nx' : x ∉ l' := fun z => as _ _ (q'.1 x z) (q'.1 x z)
    rw [sorted_uniq as q.2 q'.2 fun z => ?_]
    constructor
    · intro hz
      rcases List.mem_cons.mp ((h z).mp (List.mem_cons_of_mem _ hz)) with e | e
      · exact absurd (e ▸ hz) nx
      · exact e
    · intro hz
      rcases List.mem_cons.mp ((h z).mpr (List.mem_cons_of_mem _ hz)) with e | e
      · exact absurd (e ▸ hz) nx'
      · exact e
theorem SqOk.uniq {a b c d : Int} {L L' : List Sp2} (h : SqOk a b c d L) (h' : SqOk a b c d L') : L = L' :=
  sorted_uniq (fun _ _ => Bef.asym) h.ord h'.ord fun x => (h.mem x).trans (h'.mem x).symm
/-- one step on -/
theorem sq_next {a b c d : Int} (ha : In100 a) (hb : In100 b) (hc : In100 c) (hd : In100 d) {h : Sp2} {r u : Int} (g : GoesP a b c d h.1 h.2) (ne : ¬(h.1 = c ∧ h.2 = d))
    (hr : (0 < c - a ∧ r = 1) ∨ (c - a = 0 ∧ r = 0) ∨ (c - a < 0 ∧ r = -1)) (hu : (0 < d - b ∧ u = 1) ∨ (d - b = 0 ∧ u = 0) ∨ (d - b < 0 ∧ u = -1)) {f : Sp2 → Bool}
    (hf : ∀ s, f s = true ↔ (¬(s.1 = h.1 ∧ s.2 = h.2) ∧ GoesP a b c d s.1 s.2)) :
    ∃ s : Sp2, ∃ rest, [(h.1 + r, h.2), (h.1, h.2 + u), (h.1 + r, h.2 + u)].filter f = s :: rest ∧ GoesP a b c d s.1 s.2 ∧ Bef a b c d h s ∧ Near1 h s ∧ (∀ t : Sp2, GoesP a b c d t.1 t.2 → Bef a b c d h t → t = s ∨ Bef a b c d s t) := by
  obtain ⟨m', n', g', ne', a1, a2, b1, b2⟩ := next_goes ha hb hc hd g ne
  have cand : ∀ s : Sp2, s ∈ [(h.1 + r, h.2), (h.1, h.2 + u), (h.1 + r, h.2 + u)] → ¬(s.1 = h.1 ∧ s.2 = h.2) → Bef a b c d h s ∧ Near1 h s := fun s hs hn => by
    simp only [List.mem_cons, List.not_mem_nil, or_false] at hs
    unfold Bef Near1 Ahead
    refine ⟨⟨?_, ?_, hn⟩, ?_⟩
    all_goals rcases hs with rfl | rfl | rfl <;> dsimp only <;> omega
  have hm : (m', n') ∈ [(h.1 + r, h.2), (h.1, h.2 + u), (h.1 + r, h.2 + u)] := by
    have e1 : m' = h.1 ∨ m' = h.1 + r := by unfold Ahead at a1; omega
    have e2 : n' = h.2 ∨ n' = h.2 + u := by unfold Ahead at a2; omega
    simp only [List.mem_cons, List.not_mem_nil, or_false, Prod.mk.injEq]
    rcases e1 with e1 | e1 <;> rcases e2 with e2 | e2
    · exact absurd ⟨e1, e2⟩ ne'
    · exact .inr (.inl ⟨e1, e2⟩)
    · exact .inl ⟨e1, e2⟩
    · exact .inr (.inr ⟨e1, e2⟩)
  have hfm : f (m', n') = true := (hf _).mpr ⟨ne', g'⟩
  have btw : ∀ s t : Sp2, Bef a b c d h t → Bef a b c d t s → s.1 - h.1 = r ∧ s.2 = h.2 ∨ s.1 = h.1 ∧ s.2 - h.2 = u ∨ s.1 = h.1 + r ∧ s.2 = h.2 + u → s.1 = h.1 + r ∧ s.2 = h.2 + u ∧ (t = (h.1 + r, h.2) ∨ t = (h.1, h.2 + u)) := fun s t k1 k2 e => by
    obtain ⟨t1, t2⟩ := t
    obtain ⟨s1, s2⟩ := s
    unfold Bef Ahead at k1 k2
    dsimp only at *
    simp only [Prod.mk.injEq]
    omega
  have fin : ∀ s : Sp2, GoesP a b c d s.1 s.2 → (s.1 - h.1 = r ∧ s.2 = h.2 ∨ s.1 = h.1 ∧ s.2 - h.2 = u ∨ s.1 = h.1 + r ∧ s.2 = h.2 + u) → (s.1 = h.1 + r → s.2 = h.2 + u → (f (h.1 + r, h.2) = false ∧ f (h.1, h.2 + u) = false) ∨ s = (h.1 + r, h.2) ∨ s = (h.1, h.2 + u)) →
      ∀ t : Sp2, GoesP a b c d t.1 t.2 → Bef a b c d h t → t = s ∨ Bef a b c d s t := fun s gs es hs t gt bt => by
    rcases goes_total gs gt with e | e | e
    · exact .inl e.symm
    · exact .inr e
    · obtain ⟨e1, e2, e3⟩ := btw s t bt e es
      have ft : f t = true := (hf t).mpr ⟨fun z => bt.2.2 z, gt⟩
      rcases hs e1 e2 with ⟨f1, f2⟩ | f1 | f1
      · rcases e3 with e3 | e3
        · rw [e3, f1] at ft; cases ft
        · rw [e3, f2] at ft; cases ft
      · exfalso
        subst f1
        unfold Bef Ahead at bt e
        obtain ⟨t1, t2⟩ := t
        dsimp only at *
        simp only [Prod.mk.injEq] at e3
        omega
      · exfalso
        subst f1
        unfold Bef Ahead at bt e
        obtain ⟨t1, t2⟩ := t
        dsimp only at *
        simp only [Prod.mk.injEq] at e3
        omega
  by_cases f1 : f (h.1 + r, h.2) = true
  · have z := (hf _).mp f1
    refine ⟨_, _, by rw [List.filter_cons, if_pos f1], z.2, (cand _ List.mem_cons_self z.1).1, (cand _ List.mem_cons_self z.1).2, fin _ z.2 (.inl ⟨by dsimp only; omega, rfl⟩) fun _ _ => .inr (.inl rfl)⟩
  · rw [Bool.not_eq_true] at f1
    by_cases f2 : f (h.1, h.2 + u) = true
    · have z := (hf _).mp f2
      refine ⟨_, _, by rw [List.filter_cons, if_neg (by rw [f1]; decide), List.filter_cons, if_pos f2], z.2, (cand _ (by simp) z.1).1, (cand _ (by simp) z.1).2, fin _ z.2 (.inr (.inl ⟨rfl, by dsimp only; omega⟩)) fun _ _ => .inr (.inr rfl)⟩
    · rw [Bool.not_eq_true] at f2
      have f3 : f (h.1 + r, h.2 + u) = true := by
        simp only [List.mem_cons, List.not_mem_nil, or_false] at hm
        rcases hm with e | e | e
        · rw [e, f1] at hfm; cases hfm
        · rw [e, f2] at hfm; cases hfm
        · rw [e] at hfm; exact hfm
      have z := (hf _).mp f3
      refine ⟨_, _, by rw [List.filter_cons, if_neg (by rw [f1]; decide), List.filter_cons, if_neg (by rw [f2]; decide), List.filter_cons, if_pos f3], z.2, (cand _ (by simp) z.1).1, (cand _ (by simp) z.1).2, fin _ z.2 (.inr (.inr ⟨rfl, rfl⟩)) fun _ _ => .inl ⟨f1, f2⟩⟩
/-- what the loop has found -/
structure SqSo (a b c d : Int) (L : List Sp2) (h : Sp2) (m : Nat) : Prop where
  at_ : L.getLast? = some h
  gone : ∀ s ∈ L, GoesP a b c d s.1 s.2
  all : ∀ s : Sp2, GoesP a b c d s.1 s.2 → s ∈ L ∨ Bef a b c d h s
  ord : L.Pairwise (Bef a b c d)
  one : ∀ (i : Nat) (s t : Sp2), L[i]? = some s → L[i + 1]? = some t → Near1 s t
  hd : L.head? = some (a, b)
  left : m = (c - h.1).natAbs + (d - h.2).natAbs
  few : L.length + m ≤ 402
theorem goesP_end {a b c d : Int} : GoesP a b c d a b := ⟨0, 1, by decide, by decide, by decide, by unfold inX; omega, by unfold inX; omega⟩
theorem goesP_fin {a b c d : Int} : GoesP a b c d c d := ⟨1, 1, by decide, by decide, by decide, by unfold inX; omega, by unfold inX; omega⟩
theorem bef_start {a b c d : Int} {s : Sp2} (g : GoesP a b c d s.1 s.2) (n : s ≠ (a, b)) : Bef a b c d (a, b) s := by
  obtain ⟨p, q, q0, p0, p1, i1, i2⟩ := g
  refine ⟨?_, ?_, fun z => n (Prod.ext z.1 z.2)⟩
  · exact inX_ahead (p := 0) (q := 1) (by decide) q0 (by omega) (by unfold inX; omega) i1
  · exact inX_ahead (p := 0) (q := 1) (by decide) q0 (by omega) (by unfold inX; omega) i2
theorem bef_fin {a b c d : Int} {s : Sp2} (g : GoesP a b c d s.1 s.2) (n : s ≠ (c, d)) : Bef a b c d s (c, d) := by
  obtain ⟨p, q, q0, p0, p1, i1, i2⟩ := g
  refine ⟨?_, ?_, fun z => n (Prod.ext z.1.symm z.2.symm)⟩
  · exact inX_ahead (p' := 1) (q' := 1) q0 (by decide) (by omega) i1 (by unfold inX; omega)
  · exact inX_ahead (p' := 1) (q' := 1) q0 (by decide) (by omega) i2 (by unfold inX; omega)
theorem SqSo.start {a b c d : Int} (ha : In100 a) (hb : In100 b) (hc : In100 c) (hd : In100 d) : SqSo a b c d [(a, b)] (a, b) ((c - a).natAbs + (d - b).natAbs) where
  at_ := rfl
  gone := fun s hs => by rw [List.mem_singleton] at hs; subst hs; exact goesP_end
  all := fun s hs => by
    by_cases e : s = (a, b)
    · exact .inl (by rw [e]; exact List.mem_singleton_self _)
    · exact .inr (bef_start hs e)
  ord := List.pairwise_singleton _ _
  one := fun i s t _ h => by simp at h
  hd := rfl
  left := rfl
  few := by unfold In100 at *; simp only [List.length_singleton]; omega
theorem SqSo.ends {a b c d : Int} {L : List Sp2} {h : Sp2} {m : Nat} (S : SqSo a b c d L h m) (e : h.1 = c ∧ h.2 = d) : SqOk a b c d L := by
  have e' : h = (c, d) := Prod.ext e.1 e.2
  subst e'
  refine ⟨fun s => ⟨S.gone s, fun g => (S.all s g).elim id fun z => ?_⟩, S.ord, S.one, S.hd, S.at_, by have := S.few; omega⟩
  by_cases es : s = (c, d)
  · subst es
    exact List.mem_of_getLast? S.at_
  · exact (z.asym (bef_fin g es)).elim
theorem SqSo.step {a b c d : Int} {L : List Sp2} {h s : Sp2} {m : Nat} (S : SqSo a b c d L h m) (ne : ¬(h.1 = c ∧ h.2 = d)) (gs : GoesP a b c d s.1 s.2) (bs : Bef a b c d h s) (n1 : Near1 h s) (fin : ∀ t : Sp2, GoesP a b c d t.1 t.2 → Bef a b c d h t → t = s ∨ Bef a b c d s t) :
    ∃ m', m' < m ∧ SqSo a b c d (L ++ [s]) s m' := by
  have hl := S.at_
  have sf : s = (c, d) ∨ Bef a b c d s (c, d) := by
    by_cases e : s = (c, d)
    · exact .inl e
    · exact .inr (bef_fin gs e)
  have hm : (c - s.1).natAbs + (d - s.2).natAbs < m := by
    have := S.left
    have hf : h = (c, d) ∨ Bef a b c d h (c, d) := by
      by_cases e : h = (c, d)
      · exact .inl e
      · exact .inr (bef_fin (S.gone h (List.mem_of_getLast? hl)) e)
    obtain ⟨s1, s2⟩ := s
    obtain ⟨h1, h2⟩ := h
    unfold Bef Ahead at bs sf hf
    dsimp only at *
    simp only [Prod.mk.injEq] at sf hf
    omega
  refine ⟨_, hm, ⟨by simp, fun t ht => ?_, fun t gt => ?_, ?_, fun i x y hx hy => ?_, ?_, rfl, ?_⟩⟩
  · rcases List.mem_append.mp ht with z | z
    · exact S.gone t z
    · rw [List.mem_singleton] at z; subst z; exact gs
  · rcases S.all t gt with z | z
    · exact .inl (List.mem_append_left _ z)
    · rcases fin t gt z with e | e
      · exact .inl (by rw [e]; exact List.mem_append_right _ (List.mem_singleton_self _))
      · exact .inr e
  · refine List.pairwise_append.mpr ⟨S.ord, List.pairwise_singleton _ _, fun x hx y hy => ?_⟩
    rw [List.mem_singleton] at hy
    subst hy
    by_cases e : x = h
    · rw [e]; exact bs
    · obtain ⟨L', e'⟩ := List.getLast?_eq_some_iff.mp hl
      have o := S.ord
      rw [e'] at o hx
      rcases List.mem_append.mp hx with z | z
      · exact ((List.pairwise_append.mp o).2.2 x z h (List.mem_singleton_self _)).trans bs
      · exact absurd (List.mem_singleton.mp z) e
  · by_cases hi : i + 1 < L.length
    · rw [List.getElem?_append_left (by omega)] at hx hy
      exact S.one i x y hx hy
    · have h2 : i + 1 = L.length := by
        have := (List.getElem?_eq_some_iff.mp hy).1
        simp at this
        omega
      rw [List.getElem?_append_right (by omega)] at hy
      rw [List.getElem?_append_left (by omega)] at hx
      rw [show i + 1 - L.length = 0 by omega] at hy
      simp at hy
      subst hy
      rw [List.getLast?_eq_getElem?, show L.length - 1 = i by omega, hx] at hl
      cases hl
      exact n1
  · have := S.hd
    cases L with
    | nil => cases this
    | cons x l => exact this
  · have := S.few
    rw [List.length_append, List.length_singleton]
    omega
theorem sign_r {Q : D → Prop} {i : Int} (h : ∀ r : Int, ((0 < i ∧ r = 1) ∨ (i = 0 ∧ r = 0) ∨ (i < 0 ∧ r = -1)) → Q (.int r)) : c_sign [.int i] Q := by
  unfold c_sign
  walk_at "dv"
  refine h _ ?_
  by_cases h1 : 0 < i
  · simp only [decide_eq_true h1, if_true, show ¬i < 0 by omega, decide_false, if_false]
    omega
  · by_cases h2 : i < 0
    · simp [h1, h2]
    · simp [h1, h2]
      omega
theorem filter_tp {f : Sp2 → Bool} {F : D → Bool} (h : ∀ s, F (tp s) = f s) : ∀ L : List Sp2, (L.map tp).filter F = (L.filter f).map tp
  | [] => rfl
  | s :: L => by
    rw [List.map_cons, List.filter_cons, List.filter_cons, h s, filter_tp h L]
    cases f s <;> rfl
theorem goesP_box {a b c d m n : Int} (g : GoesP a b c d m n) : (Ahead (c - a) a m ∧ Ahead (c - a) m c) ∧ (Ahead (d - b) b n ∧ Ahead (d - b) n d) := by
  obtain ⟨p, q, q0, p0, p1, i1, i2⟩ := g
  refine ⟨⟨?_, ?_⟩, ?_, ?_⟩
  · exact inX_ahead (p := 0) (q := 1) (by decide) q0 (by omega) (by unfold inX; omega) i1
  · exact inX_ahead (p' := 1) (q' := 1) q0 (by decide) (by omega) i1 (by unfold inX; omega)
  · exact inX_ahead (p := 0) (q := 1) (by decide) q0 (by omega) (by unfold inX; omega) i2
  · exact inX_ahead (p' := 1) (q' := 1) q0 (by decide) (by omega) i2 (by unfold inX; omega)
def In90 (i : Int) : Prop := -90 ≤ i ∧ i ≤ 90
theorem in90 {i : Int} (h1 : -40 ≤ i) (h2 : i ≤ 40) : In90 i := ⟨by omega, by omega⟩
theorem In90.h {i : Int} (h : In90 i) : In100 i := by unfold In90 In100 at *; omega
theorem goesP_in90 {a b c d m n : Int} (ha : In90 a) (hb : In90 b) (hc : In90 c) (hd : In90 d) (g : GoesP a b c d m n) : In90 m ∧ In90 n := by
  have := goesP_box g
  unfold Ahead In90 at *
  omega
theorem squares_ok {Q : D → Prop} {a b c d : Int} (ha' : In90 a) (hb' : In90 b) (hc' : In90 c) (hd' : In90 d) (hq : ∀ L, SqOk a b c d L → Q (.lst (L.map tp))) : c_squares [.tup [.int a, .int b, .int c, .int d]] Q := by
  have ha := ha'.h
  have hb := hb'.h
  have hc := hc'.h
  have hd := hd'.h
  unfold c_squares
  walk_at "dv"
  refine sign_r fun r hr => ?_
  walk_at "dv"
  refine sign_r fun u hu => ?_
  walk_at "dv"
  refine ⟨fun m ρ => ∃ L h s5 s6 s7 s8, ρ = [.v (.tup [.int a, .int b, .int c, .int d]), .v (tp h), .own (.lst (L.map tp)), .v (.int r), .v (.int u), s5, s6, s7, s8] ∧ SqSo a b c d L h m, ⟨_, [(a, b)], (a, b), _, _, _, _, rfl, .start ha hb hc hd⟩, ?_⟩
  rintro m ρ ⟨L, h, s5, s6, s7, s8, rfl, S⟩
  obtain ⟨h1, h2⟩ := h
  simp only [tp]
  walk_at "dv"
  by_cases ne : h1 = c ∧ h2 = d
  · rw [if_neg (by simp [ne.1, ne.2])]
    exact hq L (S.ends ne)
  · rw [if_pos (by simp; omega)]
    have g := S.gone _ (List.mem_of_getLast? S.at_)
    have hh := goesP_in90 ha' hb' hc' hd' g
    refine lcD_filter (fun x => match x with
      | .tup [.int m, .int n] => @decide (¬(m = h1 ∧ n = h2) ∧ GoesP a b c d m n) (Classical.propDecidable _)
      | _ => false) _ _ _ (fun x hx Q1 P k1 k2 => ?_) (by show 3 ≤ sizeLine; decide) ?_
    · obtain ⟨m, n, rfl, i1, i2⟩ : ∃ m n : Int, x = .tup [.int m, .int n] ∧ In100 m ∧ In100 n := by
        unfold In100 In90 at *
        simp only [List.mem_cons, List.not_mem_nil, or_false] at hx
        rcases hx with rfl | rfl | rfl
        · exact ⟨_, _, rfl, by omega, by omega⟩
        · exact ⟨_, _, rfl, by omega, by omega⟩
        · exact ⟨_, _, rfl, by omega, by omega⟩
      clear hx
      walk_at "dv"
      split
      · rename_i e
        refine goes_ok ha hb hc hd i1 i2 fun t et => ?_
        walk_at "dv"
        cases t with
        | true => exact k1 (by simpa using ⟨fun z => by simpa [z] using e, et.mp rfl⟩)
        | false => exact k2 (by simpa using fun z w => by have := et.mpr w; cases this)
      · rename_i e
        walk_at "dv"
        exact k2 (by simp at e; simp [e])
    · obtain ⟨s, rest, ef, gs, bs, n1, fin⟩ := sq_next ha hb hc hd g ne hr hu (f := fun s => @decide (¬(s.1 = h1 ∧ s.2 = h2) ∧ GoesP a b c d s.1 s.2) (Classical.propDecidable _)) (fun s => by simp)
      have ef2 := filter_tp (f := fun s : Sp2 => @decide (¬(s.1 = h1 ∧ s.2 = h2) ∧ GoesP a b c d s.1 s.2) (Classical.propDecidable _)) (F := fun x => match x with
        | .tup [.int m, .int n] => @decide (¬(m = h1 ∧ n = h2) ∧ GoesP a b c d m n) (Classical.propDecidable _)
        | _ => false) (fun s => rfl) [(h1 + r, h2), (h1, h2 + u), (h1 + r, h2 + u)]
      rw [ef] at ef2
      have ef3 : List.filter (fun x => match x with
        | .tup [.int m, .int n] => @decide (¬(m = h1 ∧ n = h2) ∧ GoesP a b c d m n) (Classical.propDecidable _)
        | _ => false) [D.tup [D.int (h1 + r), D.int h2], D.tup [D.int h1, D.int (h2 + u)], D.tup [D.int (h1 + r), D.int (h2 + u)]] = .tup [.int s.1, .int s.2] :: rest.map tp := ef2
      rw [List.nil_append, ef3]
      walk_at "dv"
      obtain ⟨m', hm, S'⟩ := S.step ne gs bs n1 fin
      refine ⟨by rw [List.length_map]; have := S.few; exact Nat.lt_of_le_of_lt (show L.length ≤ 402 by omega) (by decide), ?_⟩
      refine ⟨m', hm, L ++ [s], s, _, _, _, _, congrArg (fun z => [_, _, Slot.own (D.lst z), _, _, _, _, _, _]) ?_, S'⟩
      rw [List.map_append]
      rfl
end DV

namespace DV
open PySem PySem.Spec PyProof.Rows L2
local macro_rules | `(tactic| walk_at "dv") => `(tactic| simp (config := { failIfUnchanged := false, implicitDefEqProofs := false }) only [↓k_for_q, ↓e_for_n, ↓e_for_c, ↓k_sAppend1_q, ↓k_sAppend_q, ↓k_sRetOwn_q, ↓k_sPar2_q, ↓k_sPar_q, ↓k_sPar33_q, ↓k_sPar3_q, ↓k_some_q, ↓k_asI_q, ↓k_asS_q, ↓k_rng1_q, ↓k_one_q, ↓k_rng22_q, ↓k_rng21_q, ↓k_rng2_q, ↓k_two_q, ↓k_non_q, ↓k_no_q, ↓k_sSet_q, ↓k_sAsg_q, ↓k_sAsg2_q, ↓k_sIf_q, ↓k_sDrop_q, ↓k_sOwn_q, ↓k_sFor_q, ↓k_gs_q, ↓k_dOp2_q, ↓k_dOp_q, ↓k_dCh4_q, ↓k_dCh3_q, ↓k_dCh2_q, ↓k_dCh1_q, ↓k_dUn_q, ↓k_dTest_q, ↓k_dAnd_q, ↓k_dOr_q, ↓k_dNot_q, ↓k_dAndV_q, ↓k_dOrV_q, ↓k_dIf_q, ↓k_dCons2_q, ↓k_dCons_q, ↓k_dTup_q, ↓k_dLst_q, ↓k_dCall_q, ↓k_dIsi_q, ↓k_dIsi2_q, ↓k_dSl3_q, ↓k_dSl2_q, ↓k_dSl_q, ↓k_dRev_q, ↓k_dLc_q, ↓k_dB_q, ↓chB_b, ↓tsB_b, ↓dVar_s, ↓ownL_o, ↓ownD_o, ↓roL_l, ↓e_sAppend, ↓e_sRetOwn, ↓two_2, ↓three_3, ↓e_sPar, ↓e_sPar3, ↓asI_i, ↓e_dPart, ↓asS_l, ↓asS_t, ↓e_iSeq, ↓one_1, ↓e_iRng1D, ↓e_iRng2D, ↓wipeD_n, ↓wipeD_c, ↓frz_0, ↓frz_0v, ↓frz_s, ↓e_fnD, ↓e_sSeq, ↓e_sNext, ↓e_sBreak, ↓e_sCont, ↓e_sSet, ↓e_sAsg, ↓e_sAsg2, ↓e_sIf, ↓e_sRet, ↓e_sRetN, ↓e_sDrop, ↓e_sNever, ↓e_sOwn, ↓e_sFrz, ↓e_sFor, ↓e_gN, ↓e_gT_t, ↓e_gsNil_n, ↓e_gsCons_c, ↓e_dVar_0, ↓e_dVar_0t, ↓e_dC, ↓e_dOp, ↓e_dChain, ↓e_dUn, ↓e_dTest, ↓e_dAnd, ↓e_dOr, ↓e_dNot, ↓e_dAndV, ↓e_dOrV, ↓e_dIf, ↓e_dNil, ↓e_dCons, ↓e_dTup, ↓e_dLst, ↓e_dCall, ↓e_dB, ↓e_dIsi, ↓e_dIsi2, ↓e_dSl, ↓e_dRev, ↓e_dNo, ↓e_dYes, ↓e_dLc,
  ↓addD_ii, ↓addD_tt, ↓addD_ll, ↓subD_ii, ↓mulD_ii, ↓fdivD_ii, ↓modD_ii, ↓powD_10_9, ↓powD_10_6, ↓ltA_ii, ↓leA_ii, ↓gtA_ii, ↓geA_ii, ↓ltA_t2, ↓leA_t2, ↓gtA_t2, ↓geA_t2, ↓max2A_ii, ↓min2A_ii, ↓slh4, ↓slt4', ↓max2A_c, ↓min2A_c, ↓revD_l, ↓isNon_n, ↓isNon_t, ↓isNon_l, ↓notNon_n, ↓notNon_t, ↓isBD_bb, ↓negD_i, ↓notD_b, ↓absD_i, ↓intC_i, ↓intC_b, ↓lenD_l, ↓lenD_t, ↓listD_l, ↓listD_t, ↓tupleD_l, ↓tupleD_t, ↓allD_l, ↓anyD_l, ↓ixT0, ↓ixT1, ↓ixT2, ↓ixT3, ↓ixL0, ↓ixL1, ↓ixL2, ↓ixL3, ↓slD_l,
  eqD, neD, notInD, sl0, sl1, sl2, sl3, sl4, sl5, sl6, sl7, sl8, sl9, sl10, sl11, sl12, slt0, slt1, slt2, slt3, slt4, slt5, slt6, slt7, slt8, slt9, slt10, slt11, slt12, lay_i, lay_b, lay_n, lay_t0, lay_l0, lay_t2, lay_t4, eqb_ii, eqb_bb, eqb_ss, eqb_nn, eqb_tt, eqb_ll, eqbs_nn, eqbs_cc, eqbs_nc, eqbs_cn, tyOk_n, tyOk_b, tyOk_i, tyOk_s, tyOk_t, tyOk_l, isi_n, isi_b, isi_i, isi_s, isi_t, isi_l,
  List.map_cons, List.map_nil, List.cons_append, List.nil_append, List.append_nil, List.append_assoc, List.length_cons, List.length_nil, List.getElem?_cons_zero, List.getElem?_cons_succ, List.set_cons_zero, List.set_cons_succ, List.replicate, Nat.reduceAdd, Nat.reduceSub, Nat.zero_add, Nat.reduceLeDiff, Nat.reduceEqDiff,
  if_true, if_false, true_and, and_true, and_self, Bool.not_true, Bool.not_false, Bool.false_eq_true, Bool.and_true, Bool.true_and, Bool.or_false, Bool.false_or, Bool.or_true, Bool.true_or, decide_eq_true_eq, decide_true, decide_false, beq_self_eq_true, beq_iff_eq, String.reduceEq, reduceIte, reduceCtorEq])
/-! ### places on strokes -/
/-- the place (x/v, y/w) lies on the stroke -/
def OnS (a b c d x v y w : Int) : Prop := ∃ p q : Int, 0 < q ∧ 0 ≤ p ∧ p ≤ q ∧ x * q = (a * q + (c - a) * p) * v ∧ y * q = (b * q + (d - b) * p) * w
theorem OnS.rev {a b c d x v y w : Int} (h : OnS a b c d x v y w) : OnS c d a b x v y w := by
  obtain ⟨p, q, q0, p0, p1, e1, e2⟩ := h
  refine ⟨q - p, q, q0, by omega, by omega, ?_, ?_⟩
  · rw [e1]; grind
  · rw [e2]; grind
def nearI (x v : Int) : Int := (2 * x + v).fdiv (2 * v)
theorem nearI_between {o u : Int} (h0 : 0 < u) : (2 * nearI o u - 1) * u ≤ 2 * o ∧ 2 * o < (2 * nearI o u + 1) * u := by
  unfold nearI
  rw [Int.fdiv_eq_ediv_of_nonneg _ (by omega)]
  generalize hn : (2 * o + u) / (2 * u) = n
  have h1 := Int.emod_nonneg (2 * o + u) (b := 2 * u) (by omega)
  have h2 := Int.emod_lt_of_pos (2 * o + u) (b := 2 * u) (by omega)
  have h3 := Int.mul_ediv_add_emod (2 * o + u) (2 * u)
  rw [hn] at h3
  have e1 : (2 * n - 1) * u = 2 * u * n - u := by grind
  have e2 : (2 * n + 1) * u = 2 * u * n + u := by grind
  omega
theorem inX_near {a dx x v p q : Int} (v0 : 0 < v) (q0 : 0 < q) (e : x * q = (a * q + dx * p) * v) : inX a dx (nearI x v) p q := by
  have h := nearI_between (o := x) v0
  unfold inX
  generalize nearI x v = n at *
  have k1 := Int.mul_le_mul_of_nonneg_right h.1 (show 0 ≤ q by omega)
  have k2 := Int.mul_lt_mul_of_pos_right h.2 q0
  have e1 : 2 * x * q = (2 * a * q + 2 * dx * p) * v := by grind
  rw [e1] at k1 k2
  refine ⟨?_, ?_⟩
  · refine (mul_le_iff v0).mp ?_
    rw [show (2 * n - 1) * q * v = (2 * n - 1) * v * q by grind]
    exact k1
  · refine (mul_lt_iff v0).mp ?_
    rw [show (2 * n + 1) * q * v = (2 * n + 1) * v * q by grind]
    exact k2
theorem OnS.goes {a b c d x v y w : Int} (v0 : 0 < v) (w0 : 0 < w) (h : OnS a b c d x v y w) : GoesP a b c d (nearI x v) (nearI y w) := by
  obtain ⟨p, q, q0, p0, p1, e1, e2⟩ := h
  exact ⟨p, q, q0, p0, p1, inX_near v0 q0 e1, inX_near w0 q0 e2⟩
theorem nearI_one {x : Int} : nearI x 1 = x := by
  unfold nearI
  rw [Int.fdiv_eq_ediv_of_nonneg _ (by omega)]
  omega
theorem OnS.goes1 {a b c d x y : Int} (h : OnS a b c d x 1 y 1) : GoesP a b c d x y := by
  have := h.goes (by decide) (by decide)
  rwa [nearI_one, nearI_one] at this
/-- a spot on the line of a stroke and between its ends lies on it -/
theorem onS_line {a b c d x y : Int} (n : ¬(c = a ∧ d = b)) (h : c0 a b c d x y = 0) (h1 : a < x ∨ (a = x ∧ b ≤ y)) (h2 : x < c ∨ (x = c ∧ y ≤ d)) : OnS a b c d x 1 y 1 := by
  unfold c0 at h
  by_cases e : c = a
  · subst e
    have hx : x = c := by omega
    subst hx
    exact ⟨y - b, d - b, by omega, by omega, by omega, by grind, by grind⟩
  · have e2 : (c - a) * (y - b) = (d - b) * (x - a) := by omega
    refine ⟨x - a, c - a, by omega, by omega, by omega, by grind, ?_⟩
    have : y * (c - a) = b * (c - a) + (c - a) * (y - b) := by grind
    rw [this, e2]; grind
theorem c0_ends {a b c d : Int} : c0 a b c d a b = 0 ∧ c0 a b c d c d = 0 := by unfold c0; constructor <;> grind
/-- lexicographic -/
def LexLe (i j k l : Int) : Prop := i < k ∨ (i = k ∧ j ≤ l)
theorem onS_lex {a b c d x y : Int} (n : ¬(c = a ∧ d = b)) (h : c0 a b c d x y = 0) (h1 : LexLe (mnx a b c d) (mny a b c d) x y) (h2 : LexLe x y (mxx a b c d) (mxy a b c d)) : OnS a b c d x 1 y 1 := by
  unfold LexLe mnx mny mxx mxy at *
  by_cases k : c < a ∨ (c = a ∧ d < b)
  · rw [if_pos k, if_pos k] at h1
    rw [if_neg (by omega), if_neg (by omega)] at h2
    refine (onS_line (a := c) (b := d) (c := a) (d := b) (by omega) ?_ h1 h2).rev
    rw [c0_r, h]; rfl
  · rw [if_neg k, if_neg k] at h1
    by_cases k2 : a < c ∨ (a = c ∧ b < d)
    · rw [if_pos k2, if_pos k2] at h2
      exact onS_line n h h1 h2
    · exact absurd ⟨by omega, by omega⟩ n
theorem c0_on {a b c d e f g h : Int} (n1 : ¬(c = a ∧ d = b)) (W : wh a b c d e f g h = 0) (C : c0 a b c d e f = 0) : c0 a b c d g h = 0 ∧ c0 e f g h a b = 0 ∧ c0 e f g h c d = 0 := by
  have ex := ec_x (a := a) (b := b) (c := c) (d := d) (e := e) (f := f) (g := g) (h := h)
  have ey := ec_y (a := a) (b := b) (c := c) (d := d) (e := e) (f := f) (g := g) (h := h)
  rw [W, C] at ex ey
  have z : e0 a b e f g h = 0 := by
    by_cases q : c = a
    · have q2 : d - b ≠ 0 := by omega
      have : e0 a b e f g h * (d - b) = 0 := by omega
      exact (Int.mul_eq_zero.mp this).resolve_right q2
    · have : e0 a b e f g h * (c - a) = 0 := by omega
      exact (Int.mul_eq_zero.mp this).resolve_right (by omega)
  have r1 := crs_c1 (a := a) (b := b) (c := c) (d := d) (e := e) (f := f) (g := g) (h := h)
  have r2 := crs_e0 (a := a) (b := b) (e := e) (f := f) (g := g) (h := h)
  have r3 := crs_e1 (a := a) (b := b) (c := c) (d := d) (e := e) (f := f) (g := g) (h := h)
  rw [crs_c0] at r1 r2 r3
  rw [r1, r2, r3, W, C, z]
  exact ⟨rfl, rfl, rfl⟩
/-- where two strokes meet, both are -/
inductive MeetC (a b c d e f g h : Int) : D → Prop where
  | non : MeetC a b c d e f g h .non
  | at_ (x v y w : Int) : 0 < v → 0 < w → v ≤ 80000 → w ≤ 80000 → Int.gcd x v = 1 → Int.gcd y w = 1 → OnS a b c d x v y w → OnS e f g h x v y w → MeetC a b c d e f g h (.tup [.str (Str.ofString "at"), .tup [.tup [.int x, .int v], .tup [.int y, .int w]]])
  | along (p q r s : Int) : (p < r ∨ (p = r ∧ q < s)) → OnS a b c d p 1 q 1 → OnS e f g h p 1 q 1 → OnS a b c d r 1 s 1 → OnS e f g h r 1 s 1 → MeetC a b c d e f g h (.tup [.str (Str.ofString "along"), .tup [.int p, .int q], .tup [.int r, .int s]])
theorem mx_or (i j k l : Int) : (mxx i j k l = i ∧ mxy i j k l = j ∧ LexLe k l i j) ∨ (mxx i j k l = k ∧ mxy i j k l = l ∧ LexLe i j k l) := by
  unfold mxx mxy LexLe
  by_cases h : i < k ∨ (i = k ∧ j < l)
  · rw [if_pos h, if_pos h]; exact .inr ⟨rfl, rfl, by omega⟩
  · rw [if_neg h, if_neg h]; exact .inl ⟨rfl, rfl, by omega⟩
theorem mn_or (i j k l : Int) : (mnx i j k l = i ∧ mny i j k l = j ∧ LexLe i j k l) ∨ (mnx i j k l = k ∧ mny i j k l = l ∧ LexLe k l i j) := by
  unfold mnx mny LexLe
  by_cases h : k < i ∨ (k = i ∧ l < j)
  · rw [if_pos h, if_pos h]; exact .inr ⟨rfl, rfl, by omega⟩
  · rw [if_neg h, if_neg h]; exact .inl ⟨rfl, rfl, by omega⟩
theorem LexLe.trans {i j k l m n : Int} (h : LexLe i j k l) (h' : LexLe k l m n) : LexLe i j m n := by unfold LexLe at *; omega
theorem LexLe.refl {i j : Int} : LexLe i j i j := .inr ⟨rfl, Int.le_refl _⟩
theorem mx_ge (i j k l : Int) : LexLe i j (mxx i j k l) (mxy i j k l) ∧ LexLe k l (mxx i j k l) (mxy i j k l) := by
  rcases mx_or i j k l with ⟨a, b, h⟩ | ⟨a, b, h⟩ <;> rw [a, b]
  · exact ⟨.refl, h⟩
  · exact ⟨h, .refl⟩
theorem mn_le (i j k l : Int) : LexLe (mnx i j k l) (mny i j k l) i j ∧ LexLe (mnx i j k l) (mny i j k l) k l := by
  rcases mn_or i j k l with ⟨a, b, h⟩ | ⟨a, b, h⟩ <;> rw [a, b]
  · exact ⟨.refl, h⟩
  · exact ⟨h, .refl⟩
theorem common_c {a b c d e f g h : Int} (n1 : ¬(c = a ∧ d = b)) (n2 : ¬(g = e ∧ h = f)) (W : wh a b c d e f g h = 0) (C : c0 a b c d e f = 0) : MeetC a b c d e f g h (commonD a b c d e f g h) := by
  obtain ⟨z1, z2, z3⟩ := c0_on n1 W C
  have y1 := c0_ends (a := a) (b := b) (c := c) (d := d)
  have y2 := c0_ends (a := e) (b := f) (c := g) (d := h)
  unfold commonD
  have lo := mx_or (mnx a b c d) (mny a b c d) (mnx e f g h) (mny e f g h)
  have hi := mn_or (mxx a b c d) (mxy a b c d) (mxx e f g h) (mxy e f g h)
  have l1 := mx_ge (mnx a b c d) (mny a b c d) (mnx e f g h) (mny e f g h)
  have h1 := mn_le (mxx a b c d) (mxy a b c d) (mxx e f g h) (mxy e f g h)
  have m1 := mn_or a b c d
  have m2 := mn_or e f g h
  have m3 := mx_or a b c d
  have m4 := mx_or e f g h
  generalize hp : mxx (mnx a b c d) (mny a b c d) (mnx e f g h) (mny e f g h) = p at *
  generalize hq : mxy (mnx a b c d) (mny a b c d) (mnx e f g h) (mny e f g h) = q at *
  generalize hr : mnx (mxx a b c d) (mxy a b c d) (mxx e f g h) (mxy e f g h) = r at *
  generalize hs : mny (mxx a b c d) (mxy a b c d) (mxx e f g h) (mxy e f g h) = s at *
  have Zp : c0 a b c d p q = 0 ∧ c0 e f g h p q = 0 := by
    rcases lo with ⟨e1, e2, -⟩ | ⟨e1, e2, -⟩ <;> rw [e1, e2]
    · rcases m1 with ⟨f1, f2, -⟩ | ⟨f1, f2, -⟩ <;> rw [f1, f2]
      · exact ⟨y1.1, z2⟩
      · exact ⟨y1.2, z3⟩
    · rcases m2 with ⟨f1, f2, -⟩ | ⟨f1, f2, -⟩ <;> rw [f1, f2]
      · exact ⟨C, y2.1⟩
      · exact ⟨z1, y2.2⟩
  have Zr : c0 a b c d r s = 0 ∧ c0 e f g h r s = 0 := by
    rcases hi with ⟨e1, e2, -⟩ | ⟨e1, e2, -⟩ <;> rw [e1, e2]
    · rcases m3 with ⟨f1, f2, -⟩ | ⟨f1, f2, -⟩ <;> rw [f1, f2]
      · exact ⟨y1.1, z2⟩
      · exact ⟨y1.2, z3⟩
    · rcases m4 with ⟨f1, f2, -⟩ | ⟨f1, f2, -⟩ <;> rw [f1, f2]
      · exact ⟨C, y2.1⟩
      · exact ⟨z1, y2.2⟩
  unfold comD
  by_cases k : r < p ∨ (r = p ∧ s < q)
  · rw [if_pos k]; exact .non
  · rw [if_neg k]
    have pr : LexLe p q r s := by unfold LexLe; omega
    have op1 : OnS a b c d p 1 q 1 := onS_lex n1 Zp.1 l1.1 (pr.trans h1.1)
    have op2 : OnS e f g h p 1 q 1 := onS_lex n2 Zp.2 l1.2 (pr.trans h1.2)
    have or1 : OnS a b c d r 1 s 1 := onS_lex n1 Zr.1 (l1.1.trans pr) h1.1
    have or2 : OnS e f g h r 1 s 1 := onS_lex n2 Zr.2 (l1.2.trans pr) h1.2
    by_cases k2 : p = r ∧ q = s
    · rw [if_pos k2]
      exact .at_ p 1 q 1 (by decide) (by decide) (by decide) (by decide) (Int.gcd_one_right ..) (Int.gcd_one_right ..) op1 op2
    · rw [if_neg k2]
      exact .along p q r s (by unfold LexLe at pr; omega) op1 op2 or1 or2
theorem frac_in {E W : Int} (w0 : W ≠ 0) (h : ¬0 < E * (E - W)) : (0 < W ∧ 0 ≤ E ∧ E ≤ W) ∨ (W < 0 ∧ E ≤ 0 ∧ W ≤ E) := by
  rcases Int.lt_or_gt_of_ne w0 with z | z
  · right
    refine ⟨z, ?_, ?_⟩
    · rcases Int.lt_or_le 0 E with k | k
      · exact absurd (Int.mul_pos k (by omega)) h
      · exact k
    · rcases Int.lt_or_le E W with k | k
      · exact absurd (Int.mul_pos_of_neg_of_neg (by omega) (by omega)) h
      · exact k
  · left
    refine ⟨z, ?_, ?_⟩
    · rcases Int.lt_or_le E 0 with k | k
      · exact absurd (Int.mul_pos_of_neg_of_neg k (by omega)) h
      · exact k
    · rcases Int.lt_or_le W E with k | k
      · exact absurd (Int.mul_pos (by omega) (by omega)) h
      · exact k
theorem onS_frac {a b c d x v y w E W : Int} (v0 : 0 < v) (w0 : 0 < w) (W0 : W ≠ 0) (h : ¬0 < E * (E - W)) (e1 : x * W = (a * W + E * (c - a)) * v) (e2 : y * W = (b * W + E * (d - b)) * w) : OnS a b c d x v y w := by
  rcases frac_in W0 h with ⟨k1, k2, k3⟩ | ⟨k1, k2, k3⟩
  · exact ⟨E, W, k1, k2, k3, by rw [e1]; grind, by rw [e2]; grind⟩
  · exact ⟨-E, -W, by omega, by omega, by omega, by rw [Int.mul_neg, e1]; grind, by rw [Int.mul_neg, e2]; grind⟩
theorem meet_c {a b c d e f g h : Int} (ha : In100 a) (hb : In100 b) (hc : In100 c) (hd : In100 d) (he : In100 e) (hf : In100 f) (hg : In100 g) (hh : In100 h) (n1 : ¬(c = a ∧ d = b)) (n2 : ¬(g = e ∧ h = f)) : MeetC a b c d e f g h (meetD a b c d e f g h) := by
  unfold meetD
  have ex := ec_x (a := a) (b := b) (c := c) (d := d) (e := e) (f := f) (g := g) (h := h)
  have ey := ec_y (a := a) (b := b) (c := c) (d := d) (e := e) (f := f) (g := g) (h := h)
  have cm := common_c (a := a) (b := b) (c := c) (d := d) (e := e) (f := f) (g := g) (h := h) n1 n2
  have bW : (wh a b c d e f g h).natAbs ≤ 80000 := by
    unfold wh In100 at *
    have := prod_b (i := c - a) (j := h - f) (m := 200) (n := 200) (by omega) (by omega)
    have := prod_b (i := d - b) (j := g - e) (m := 200) (n := 200) (by omega) (by omega)
    omega
  generalize hW : wh a b c d e f g h = W at *
  generalize hC : c0 a b c d e f = C at *
  generalize hE : e0 a b e f g h = E at *
  by_cases w0 : W = 0
  · rw [if_pos w0]
    by_cases k0 : C = 0
    · rw [if_pos k0]; exact cm w0 k0
    · rw [if_neg k0]; exact .non
  · rw [if_neg w0]
    by_cases k : 0 < C * (C + W) ∨ 0 < E * (E - W)
    · rw [if_pos k]; exact .non
    · rw [if_neg k]
      obtain ⟨x, v, e1, v0, r1, -, s1, c1⟩ := lowD_spec (o := a * W + E * (c - a)) w0
      obtain ⟨y, w, e2, w1, r2, -, s2, c2⟩ := lowD_spec (o := b * W + E * (d - b)) w0
      rw [e1, e2]
      refine .at_ x v y w v0 w1 (by omega) (by omega) c1 c2 (onS_frac v0 w1 w0 (fun z => k (.inr z)) r1 r2) (onS_frac (E := -C) v0 w1 w0 (fun z => k (.inl ?_)) ?_ ?_)
      · rw [show C * (C + W) = -C * (-C - W) by grind]; exact z
      · rw [r1]; grind
      · rw [r2]; grind
/-! ### lists of spots -/
theorem eqb_tp {s t : Sp2} : D.eqb (tp s) (tp t) = decide (s = t) := by
  obtain ⟨a, b⟩ := s
  obtain ⟨c, d⟩ := t
  simp only [tp, eqb_tt, eqbs_cc, eqb_ii, eqbs_nn, Bool.and_true, Prod.mk.injEq]
  rw [Bool.eq_iff_iff]
  simp
theorem any_tp {s : Sp2} : ∀ L : List Sp2, ((L.map tp).any fun z => D.eqb z (tp s)) = decide (s ∈ L)
  | [] => by simp
  | t :: L => by
    rw [List.map_cons, List.any_cons, any_tp L, eqb_tp, Bool.eq_iff_iff]
    simp only [Bool.or_eq_true, decide_eq_true_eq, List.mem_cons]
    exact or_congr_left ⟨Eq.symm, Eq.symm⟩
theorem layN_tp {s : Sp2} {n : Nat} : LayN (n + 1) (tp s) := fun d hd => by
  simp only [List.mem_cons, List.not_mem_nil, or_false] at hd
  rcases hd with rfl | rfl <;> cases n <;> exact True.intro
theorem layN_tps {L : List Sp2} {n : Nat} : LayN (n + 2) (.lst (L.map tp)) := fun d hd => by
  obtain ⟨s, -, rfl⟩ := List.mem_map.mp hd
  exact layN_tp
theorem lay_tps {L : List Sp2} : (D.lst (L.map tp)).lay = true := lay_of (n := 2) (by decide) layN_tps
theorem inD_tp {Q : D → Prop} {m n : Int} {L : List Sp2} (h : Q (.bl (decide ((m, n) ∈ L)))) : inD (.tup [.int m, .int n]) (.lst (L.map tp)) Q :=
  ⟨lay_t2, lay_tps, by rw [show D.tup [.int m, .int n] = tp (m, n) from rfl, any_tp]; exact h⟩
theorem notInD_tp {Q : D → Prop} {m n : Int} {L : List Sp2} (h : Q (.bl (!decide ((m, n) ∈ L)))) : notInD (.tup [.int m, .int n]) (.lst (L.map tp)) Q :=
  ⟨lay_t2, lay_tps, by rw [show D.tup [.int m, .int n] = tp (m, n) from rfl, any_tp]; exact h⟩
theorem nearest_of {Q : D → Prop} {o u : Int} (h0 : 0 < u) (h1 : u < 1000000000000000000) (h : Q (.int (nearI o u))) : c_nearest [.tup [.int o, .int u]] Q := by
  unfold c_nearest
  walk_at "dv"
  exact ⟨mulOk (by omega), mulOk (by omega), divOk (by omega) (by omega), h⟩
theorem square_of_ok {Q : D → Prop} {x v y w : Int} (v0 : 0 < v) (v1 : v ≤ 80000) (w0 : 0 < w) (w1 : w ≤ 80000) (h : Q (.tup [.int (nearI x v), .int (nearI y w)])) : c_square_of [.tup [.tup [.int x, .int v], .tup [.int y, .int w]]] Q := by
  unfold c_square_of
  walk_at "dv"
  refine nearest_of v0 (by omega) ?_
  walk_at "dv"
  refine nearest_of w0 (by omega) ?_
  walk_at "dv"
  exact h
end DV

namespace DV
open PySem PySem.Spec PyProof.Rows L2
local macro_rules | `(tactic| walk_at "dv") => `(tactic| simp (config := { failIfUnchanged := false, implicitDefEqProofs := false }) only [↓k_for_q, ↓e_for_n, ↓e_for_c, ↓k_sAppend1_q, ↓k_sAppend_q, ↓k_sRetOwn_q, ↓k_sPar2_q, ↓k_sPar_q, ↓k_sPar33_q, ↓k_sPar3_q, ↓k_some_q, ↓k_asI_q, ↓k_asS_q, ↓k_rng1_q, ↓k_one_q, ↓k_rng22_q, ↓k_rng21_q, ↓k_rng2_q, ↓k_two_q, ↓k_non_q, ↓k_no_q, ↓k_sSet_q, ↓k_sAsg_q, ↓k_sAsg2_q, ↓k_sIf_q, ↓k_sDrop_q, ↓k_sOwn_q, ↓k_sFor_q, ↓k_gs_q, ↓k_dOp2_q, ↓k_dOp_q, ↓k_dCh4_q, ↓k_dCh3_q, ↓k_dCh2_q, ↓k_dCh1_q, ↓k_dUn_q, ↓k_dTest_q, ↓k_dAnd_q, ↓k_dOr_q, ↓k_dNot_q, ↓k_dAndV_q, ↓k_dOrV_q, ↓k_dIf_q, ↓k_dCons2_q, ↓k_dCons_q, ↓k_dTup_q, ↓k_dLst_q, ↓k_dCall_q, ↓k_dIsi_q, ↓k_dIsi2_q, ↓k_dSl3_q, ↓k_dSl2_q, ↓k_dSl_q, ↓k_dRev_q, ↓k_dLc_q, ↓k_dB_q, ↓chB_b, ↓tsB_b, ↓dVar_s, ↓ownL_o, ↓ownD_o, ↓roL_l, ↓e_sAppend, ↓e_sRetOwn, ↓two_2, ↓three_3, ↓e_sPar, ↓e_sPar3, ↓asI_i, ↓e_dPart, ↓asS_l, ↓asS_t, ↓e_iSeq, ↓one_1, ↓e_iRng1D, ↓e_iRng2D, ↓wipeD_n, ↓wipeD_c, ↓frz_0, ↓frz_0v, ↓frz_s, ↓e_fnD, ↓e_sSeq, ↓e_sNext, ↓e_sBreak, ↓e_sCont, ↓e_sSet, ↓e_sAsg, ↓e_sAsg2, ↓e_sIf, ↓e_sRet, ↓e_sRetN, ↓e_sDrop, ↓e_sNever, ↓e_sOwn, ↓e_sFrz, ↓e_sFor, ↓e_gN, ↓e_gT_t, ↓e_gsNil_n, ↓e_gsCons_c, ↓e_dVar_0, ↓e_dVar_0t, ↓e_dC, ↓e_dOp, ↓e_dChain, ↓e_dUn, ↓e_dTest, ↓e_dAnd, ↓e_dOr, ↓e_dNot, ↓e_dAndV, ↓e_dOrV, ↓e_dIf, ↓e_dNil, ↓e_dCons, ↓e_dTup, ↓e_dLst, ↓e_dCall, ↓e_dB, ↓e_dIsi, ↓e_dIsi2, ↓e_dSl, ↓e_dRev, ↓e_dNo, ↓e_dYes, ↓e_dLc,
  ↓addD_ii, ↓addD_tt, ↓addD_ll, ↓subD_ii, ↓mulD_ii, ↓fdivD_ii, ↓modD_ii, ↓powD_10_9, ↓powD_10_6, ↓ltA_ii, ↓leA_ii, ↓gtA_ii, ↓geA_ii, ↓ltA_t2, ↓leA_t2, ↓gtA_t2, ↓geA_t2, ↓max2A_ii, ↓min2A_ii, ↓slh4, ↓slt4', ↓max2A_c, ↓min2A_c, ↓revD_l, ↓isNon_n, ↓isNon_t, ↓isNon_l, ↓notNon_n, ↓notNon_t, ↓isBD_bb, ↓negD_i, ↓notD_b, ↓absD_i, ↓intC_i, ↓intC_b, ↓lenD_l, ↓lenD_t, ↓listD_l, ↓listD_t, ↓tupleD_l, ↓tupleD_t, ↓allD_l, ↓anyD_l, ↓ixT0, ↓ixT1, ↓ixT2, ↓ixT3, ↓ixL0, ↓ixL1, ↓ixL2, ↓ixL3, ↓slD_l,
  eqD, neD,  sl0, sl1, sl2, sl3, sl4, sl5, sl6, sl7, sl8, sl9, sl10, sl11, sl12, slt0, slt1, slt2, slt3, slt4, slt5, slt6, slt7, slt8, slt9, slt10, slt11, slt12, lay_i, lay_b, lay_n, lay_t0, lay_l0, lay_t2, lay_t4, eqb_ii, eqb_bb, eqb_ss, eqb_nn, eqb_tt, eqb_ll, eqbs_nn, eqbs_cc, eqbs_nc, eqbs_cn, tyOk_n, tyOk_b, tyOk_i, tyOk_s, tyOk_t, tyOk_l, isi_n, isi_b, isi_i, isi_s, isi_t, isi_l,
  List.map_cons, List.map_nil, List.cons_append, List.nil_append, List.append_nil, List.append_assoc, List.length_cons, List.length_nil, List.getElem?_cons_zero, List.getElem?_cons_succ, List.set_cons_zero, List.set_cons_succ, List.replicate, Nat.reduceAdd, Nat.reduceSub, Nat.zero_add, Nat.reduceLeDiff, Nat.reduceEqDiff,
  if_true, if_false, true_and, and_true, and_self, Bool.not_true, Bool.not_false, Bool.false_eq_true, Bool.and_true, Bool.true_and, Bool.or_false, Bool.false_or, Bool.or_true, Bool.true_or, decide_eq_true_eq, decide_true, decide_false, beq_self_eq_true, beq_iff_eq, String.reduceEq, reduceIte, reduceCtorEq])
local macro_rules | `(tactic| walk_at "dw") => `(tactic| simp (config := { failIfUnchanged := false, implicitDefEqProofs := false }) only [↓k_for_q, ↓k_sAppend1_q, ↓k_sAppend_q, ↓k_sRetOwn_q, ↓k_sPar2_q, ↓k_sPar_q, ↓k_sPar33_q, ↓k_sPar3_q, ↓k_some_q, ↓k_asI_q, ↓k_asS_q, ↓k_rng1_q, ↓k_one_q, ↓k_rng22_q, ↓k_rng21_q, ↓k_rng2_q, ↓k_two_q, ↓k_non_q, ↓k_no_q, ↓k_sSet_q, ↓k_sAsg_q, ↓k_sAsg2_q, ↓k_sIf_q, ↓k_sDrop_q, ↓k_sOwn_q, ↓k_sFor_q, ↓k_gs_q, ↓k_dOp2_q, ↓k_dOp_q, ↓k_dCh4_q, ↓k_dCh3_q, ↓k_dCh2_q, ↓k_dCh1_q, ↓k_dUn_q, ↓k_dTest_q, ↓k_dAnd_q, ↓k_dOr_q, ↓k_dNot_q, ↓k_dAndV_q, ↓k_dOrV_q, ↓k_dIf_q, ↓k_dCons2_q, ↓k_dCons_q, ↓k_dTup_q, ↓k_dLst_q, ↓k_dCall_q, ↓k_dIsi_q, ↓k_dIsi2_q, ↓k_dSl3_q, ↓k_dSl2_q, ↓k_dSl_q, ↓k_dRev_q, ↓k_dLc_q, ↓k_dB_q, ↓chB_b, ↓tsB_b, ↓dVar_s, ↓ownL_o, ↓ownD_o, ↓roL_l, ↓e_sAppend, ↓e_sRetOwn, ↓two_2, ↓three_3, ↓e_sPar, ↓e_sPar3, ↓asI_i, ↓e_dPart, ↓asS_l, ↓asS_t, ↓e_iSeq, ↓one_1, ↓e_iRng1D, ↓e_iRng2D, ↓wipeD_n, ↓wipeD_c, ↓frz_0, ↓frz_0v, ↓frz_s, ↓e_fnD, ↓e_sSeq, ↓e_sNext, ↓e_sBreak, ↓e_sCont, ↓e_sSet, ↓e_sAsg, ↓e_sAsg2, ↓e_sIf, ↓e_sRet, ↓e_sRetN, ↓e_sDrop, ↓e_sNever, ↓e_sOwn, ↓e_sFrz, ↓e_sFor, ↓e_gN, ↓e_gT_t, ↓e_gsNil_n, ↓e_gsCons_c, ↓e_dVar_0, ↓e_dVar_0t, ↓e_dC, ↓e_dOp, ↓e_dChain, ↓e_dUn, ↓e_dTest, ↓e_dAnd, ↓e_dOr, ↓e_dNot, ↓e_dAndV, ↓e_dOrV, ↓e_dIf, ↓e_dNil, ↓e_dCons, ↓e_dTup, ↓e_dLst, ↓e_dCall, ↓e_dB, ↓e_dIsi, ↓e_dIsi2, ↓e_dSl, ↓e_dRev, ↓e_dNo, ↓e_dYes, ↓e_dLc,
  ↓addD_ii, ↓addD_tt, ↓addD_ll, ↓subD_ii, ↓mulD_ii, ↓fdivD_ii, ↓modD_ii, ↓powD_10_9, ↓powD_10_6, ↓ltA_ii, ↓leA_ii, ↓gtA_ii, ↓geA_ii, ↓ltA_t2, ↓leA_t2, ↓gtA_t2, ↓geA_t2, ↓max2A_ii, ↓min2A_ii, ↓slh4, ↓slt4', ↓max2A_c, ↓min2A_c, ↓revD_l, ↓isNon_n, ↓isNon_t, ↓isNon_l, ↓notNon_n, ↓notNon_t, ↓isBD_bb, ↓negD_i, ↓notD_b, ↓absD_i, ↓intC_i, ↓intC_b, ↓lenD_l, ↓lenD_t, ↓listD_l, ↓listD_t, ↓tupleD_l, ↓tupleD_t, ↓allD_l, ↓anyD_l, ↓ixT0, ↓ixT1, ↓ixT2, ↓ixT3, ↓ixL0, ↓ixL1, ↓ixL2, ↓ixL3, ↓slD_l,
  eqD, neD,  sl0, sl1, sl2, sl3, sl4, sl5, sl6, sl7, sl8, sl9, sl10, sl11, sl12, slt0, slt1, slt2, slt3, slt4, slt5, slt6, slt7, slt8, slt9, slt10, slt11, slt12, lay_i, lay_b, lay_n, lay_t0, lay_l0, lay_t2, lay_t4, eqb_ii, eqb_bb, eqb_ss, eqb_nn, eqb_tt, eqb_ll, eqbs_nn, eqbs_cc, eqbs_nc, eqbs_cn, tyOk_n, tyOk_b, tyOk_i, tyOk_s, tyOk_t, tyOk_l, isi_n, isi_b, isi_i, isi_s, isi_t, isi_l,
  List.map_cons, List.map_nil, List.cons_append, List.nil_append, List.append_nil, List.append_assoc, List.length_cons, List.length_nil, List.getElem?_cons_zero, List.getElem?_cons_succ, List.set_cons_zero, List.set_cons_succ, List.replicate, Nat.reduceAdd, Nat.reduceSub, Nat.zero_add, Nat.reduceLeDiff, Nat.reduceEqDiff,
  if_true, if_false, true_and, and_true, and_self, Bool.not_true, Bool.not_false, Bool.false_eq_true, Bool.and_true, Bool.true_and, Bool.or_false, Bool.false_or, Bool.or_true, Bool.true_or, decide_eq_true_eq, decide_true, decide_false, beq_self_eq_true, beq_iff_eq, String.reduceEq, reduceIte, reduceCtorEq])
/-! ### where strokes meet, told by the places that both have -/
def LoP (p q x v y w : Int) : Prop := p * v < x ∨ (p * v = x ∧ q * w ≤ y)
def HiP (x v y w r s : Int) : Prop := x < r * v ∨ (x = r * v ∧ y ≤ s * w)
abbrev Plc := Int → Int → Int → Int → Prop
inductive MeetF (Com : Plc) : D → Prop where
  | non : (∀ x v y w, 0 < v → 0 < w → ¬Com x v y w) → MeetF Com .non
  | at_ (x v y w : Int) : 0 < v → 0 < w → v ≤ 80000 → w ≤ 80000 → Int.gcd x v = 1 → Int.gcd y w = 1 → Com x v y w → (∀ x' v' y' w', 0 < v' → 0 < w' → Com x' v' y' w' → x' * v = x * v' ∧ y' * w = y * w') → MeetF Com (.tup [.str (Str.ofString "at"), .tup [.tup [.int x, .int v], .tup [.int y, .int w]]])
  | along (p q r s : Int) : (p < r ∨ (p = r ∧ q < s)) → Com p 1 q 1 → Com r 1 s 1 → (∀ x v y w, 0 < v → 0 < w → Com x v y w → LoP p q x v y w ∧ HiP x v y w r s) → MeetF Com (.tup [.str (Str.ofString "along"), .tup [.int p, .int q], .tup [.int r, .int s]])
theorem MeetF.uniq {Com : Plc} {R R' : D} (h : MeetF Com R) (h' : MeetF Com R') : R = R' := by
  cases h with
  | non n =>
    cases h' with
    | non _ => rfl
    | at_ x v y w v0 w0 _ _ _ _ c _ => exact absurd c (n _ _ _ _ v0 w0)
    | along p q r s _ c _ _ => exact absurd c (n _ _ _ _ (by decide) (by decide))
  | at_ x v y w v0 w0 v9 w9 c1 c2 c u =>
    cases h' with
    | non n => exact absurd c (n _ _ _ _ v0 w0)
    | at_ x' v' y' w' v0' w0' v9' w9' c1' c2' c' u' =>
      obtain ⟨e1, e2⟩ := u x' v' y' w' v0' w0' c'
      obtain ⟨rfl, rfl⟩ := cop_eq v0 v0' c1 c1' e1.symm
      obtain ⟨rfl, rfl⟩ := cop_eq w0 w0' c2 c2' e2.symm
      rfl
    | along p q r s l k1 k2 _ =>
      exfalso
      obtain ⟨e1, e2⟩ := u p 1 q 1 (by decide) (by decide) k1
      obtain ⟨e3, e4⟩ := u r 1 s 1 (by decide) (by decide) k2
      have z1 : p = r := Int.eq_of_mul_eq_mul_right (show v ≠ 0 by omega) (by omega)
      have z2 : q = s := Int.eq_of_mul_eq_mul_right (show w ≠ 0 by omega) (by omega)
      omega
  | along p q r s l k1 k2 b =>
    cases h' with
    | non n => exact absurd k1 (n _ _ _ _ (by decide) (by decide))
    | at_ x' v' y' w' v0' w0' _ _ _ _ c' u =>
      exfalso
      obtain ⟨e1, e2⟩ := u p 1 q 1 (by decide) (by decide) k1
      obtain ⟨e3, e4⟩ := u r 1 s 1 (by decide) (by decide) k2
      have z1 : p = r := Int.eq_of_mul_eq_mul_right (show v' ≠ 0 by omega) (by omega)
      have z2 : q = s := Int.eq_of_mul_eq_mul_right (show w' ≠ 0 by omega) (by omega)
      omega
    | along p' q' r' s' l' k1' k2' b' =>
      have f1 := b p' 1 q' 1 (by decide) (by decide) k1'
      have f2 := b r' 1 s' 1 (by decide) (by decide) k2'
      have f3 := b' p 1 q 1 (by decide) (by decide) k1
      have f4 := b' r 1 s 1 (by decide) (by decide) k2
      unfold LoP HiP at *
      obtain ⟨rfl, rfl, rfl, rfl⟩ : p = p' ∧ q = q' ∧ r = r' ∧ s = s' := by omega
      rfl
/-- a place of a stroke lies between its ends -/
theorem mul_mono {a b q : Int} (h : a ≤ b) (hq : 0 ≤ q) : a * q ≤ b * q := Int.mul_le_mul_of_nonneg_right h hq
theorem onS_between {a b c d x v y w : Int} (v0 : 0 < v) (w0 : 0 < w) (o : OnS a b c d x v y w) : LoP (mnx a b c d) (mny a b c d) x v y w ∧ HiP x v y w (mxx a b c d) (mxy a b c d) := by
  obtain ⟨p, q, q0, p0, p1, e1, e2⟩ := o
  -- the place times q
  have key : ∀ m : Int, (m * v < x ↔ m * q < a * q + (c - a) * p) ∧ (m * v = x ↔ m * q = a * q + (c - a) * p) ∧ (x < m * v ↔ a * q + (c - a) * p < m * q) := fun m => by
    have t1 : m * v * q = m * q * v := by grind
    refine ⟨?_, ?_, ?_⟩
    · rw [← mul_lt_iff (a := m * v) q0, e1, t1, mul_lt_iff v0]
    · constructor
      · intro h
        refine Int.eq_of_mul_eq_mul_right (show v ≠ 0 by omega) ?_
        rw [← t1, h, e1]
      · intro h
        refine Int.eq_of_mul_eq_mul_right (show q ≠ 0 by omega) ?_
        rw [e1, t1, h]
    · rw [← mul_lt_iff (b := m * v) q0, e1, t1, mul_lt_iff v0]
  have key2 : ∀ m : Int, (m * w ≤ y ↔ m * q ≤ b * q + (d - b) * p) ∧ (y ≤ m * w ↔ b * q + (d - b) * p ≤ m * q) := fun m => by
    have t1 : m * w * q = m * q * w := by grind
    exact ⟨by rw [← mul_le_iff (a := m * w) q0, e2, t1, mul_le_iff w0], by rw [← mul_le_iff (b := m * w) q0, e2, t1, mul_le_iff w0]⟩
  have lex : ∀ (a b c d : Int), LexLe a b c d → ∀ p q : Int, 0 < q → 0 ≤ p → p ≤ q → (a * q < a * q + (c - a) * p ∨ (a * q = a * q + (c - a) * p ∧ b * q ≤ b * q + (d - b) * p)) ∧ (a * q + (c - a) * p < c * q ∨ (a * q + (c - a) * p = c * q ∧ b * q + (d - b) * p ≤ d * q)) := fun a b c d h p q q0 p0 p1 => by
    have f : c * q - (a * q + (c - a) * p) = (c - a) * (q - p) := by grind
    have g : d * q - (b * q + (d - b) * p) = (d - b) * (q - p) := by grind
    unfold LexLe at h
    rcases h with h | ⟨h1, h2⟩
    · constructor
      · rcases Int.lt_or_le 0 p with z | z
        · left
          have := Int.mul_pos (show 0 < c - a by omega) z
          omega
        · right
          have : p = 0 := by omega
          subst this
          omega
      · rcases Int.lt_or_le p q with z | z
        · left
          have := Int.mul_pos (show 0 < c - a by omega) (show 0 < q - p by omega)
          omega
        · right
          have : q - p = 0 := by omega
          rw [this] at f g
          omega
    · subst h1
      have := Int.mul_nonneg (show 0 ≤ d - b by omega) p0
      have := Int.mul_nonneg (show 0 ≤ d - b by omega) (show 0 ≤ q - p by omega)
      rw [Int.sub_self, Int.zero_mul]
      constructor
      · right; omega
      · right; omega
  unfold LoP HiP
  rw [(key _).1, (key _).2.1, (key2 _).1, (key (mxx a b c d)).2.2, (key2 _).2, show (x = mxx a b c d * v ↔ a * q + (c - a) * p = mxx a b c d * q) from ⟨fun h => ((key _).2.1.mp h.symm).symm, fun h => ((key _).2.1.mpr h.symm).symm⟩]
  have g1 := lex a b c d
  have g2 := lex c d a b
  have r1 : c * q + (a - c) * (q - p) = a * q + (c - a) * p := by grind
  have r2 : d * q + (b - d) * (q - p) = b * q + (d - b) * p := by grind
  rcases Int.lt_trichotomy a c with h | h | h
  · have m1 : mnx a b c d = a ∧ mny a b c d = b ∧ mxx a b c d = c ∧ mxy a b c d = d := by
      unfold mnx mny mxx mxy
      rw [if_neg (by omega), if_neg (by omega), if_pos (by omega), if_pos (by omega)]
      exact ⟨rfl, rfl, rfl, rfl⟩
    rw [m1.1, m1.2.1, m1.2.2.1, m1.2.2.2]
    exact g1 (.inl h) p q q0 p0 p1
  · rcases Int.lt_or_le d b with k | k
    · have m1 : mnx a b c d = c ∧ mny a b c d = d ∧ mxx a b c d = a ∧ mxy a b c d = b := by
        unfold mnx mny mxx mxy
        rw [if_pos (by omega), if_pos (by omega), if_neg (by omega), if_neg (by omega)]
        exact ⟨rfl, rfl, rfl, rfl⟩
      rw [m1.1, m1.2.1, m1.2.2.1, m1.2.2.2]
      have := g2 (.inr ⟨h.symm, by omega⟩) (q - p) q q0 (by omega) (by omega)
      rw [r1, r2] at this
      exact this
    · have m1 : mnx a b c d = a ∧ mny a b c d = b ∧ mxx a b c d = c ∧ mxy a b c d = d := by
        unfold mnx mny mxx mxy
        rw [if_neg (by omega), if_neg (by omega)]
        by_cases z : b < d
        · rw [if_pos (by omega), if_pos (by omega)]; exact ⟨rfl, rfl, rfl, rfl⟩
        · rw [if_neg (by omega), if_neg (by omega)]; exact ⟨rfl, rfl, h, by omega⟩
      rw [m1.1, m1.2.1, m1.2.2.1, m1.2.2.2]
      exact g1 (.inr ⟨h, k⟩) p q q0 p0 p1
  · have m1 : mnx a b c d = c ∧ mny a b c d = d ∧ mxx a b c d = a ∧ mxy a b c d = b := by
      unfold mnx mny mxx mxy
      rw [if_pos (by omega), if_pos (by omega), if_neg (by omega), if_neg (by omega)]
      exact ⟨rfl, rfl, rfl, rfl⟩
    rw [m1.1, m1.2.1, m1.2.2.1, m1.2.2.2]
    have := g2 (.inl h) (q - p) q q0 (by omega) (by omega)
    rw [r1, r2] at this
    exact this
def Both (a b c d e f g h : Int) : Plc := fun x v y w => OnS a b c d x v y w ∧ OnS e f g h x v y w
/-- what a common place says of the reckoned numbers -/
theorem both_num {a b c d e f g h x v y w : Int} (v0 : 0 < v) (w0 : 0 < w) (o : Both a b c d e f g h x v y w) : ∃ p q r t : Int, 0 < q ∧ 0 ≤ p ∧ p ≤ q ∧ 0 < t ∧ 0 ≤ r ∧ r ≤ t ∧ e0 a b e f g h * q = p * wh a b c d e f g h ∧ c0 a b c d e f * t = -(r * wh a b c d e f g h) ∧ x * q = (a * q + (c - a) * p) * v ∧ y * q = (b * q + (d - b) * p) * w := by
  obtain ⟨⟨p, q, q0, p0, p1, e1, e2⟩, ⟨r, t, t0, r0, r1, e3, e4⟩⟩ := o
  have k1 : (a * q + (c - a) * p) * t = (e * t + (g - e) * r) * q := by
    refine Int.eq_of_mul_eq_mul_right (show v ≠ 0 by omega) ?_
    grind
  have k2 : (b * q + (d - b) * p) * t = (f * t + (h - f) * r) * q := by
    refine Int.eq_of_mul_eq_mul_right (show w ≠ 0 by omega) ?_
    grind
  refine ⟨p, q, r, t, q0, p0, p1, t0, r0, r1, ?_, ?_, e1, e2⟩
  · refine Int.eq_of_mul_eq_mul_right (show t ≠ 0 by omega) ?_
    unfold e0 wh
    grind
  · refine Int.eq_of_mul_eq_mul_right (show q ≠ 0 by omega) ?_
    unfold c0 wh
    grind
theorem lo_le {p q x v y w p' q' : Int} (h : LoP p q x v y w) (h' : LoP p' q' x v y w) : LoP (mxx p q p' q') (mxy p q p' q') x v y w := by
  rcases mx_or p q p' q' with ⟨e1, e2, -⟩ | ⟨e1, e2, -⟩ <;> rw [e1, e2]
  · exact h
  · exact h'
theorem hi_le {r s x v y w r' s' : Int} (h : HiP x v y w r s) (h' : HiP x v y w r' s') : HiP x v y w (mnx r s r' s') (mny r s r' s') := by
  rcases mn_or r s r' s' with ⟨e1, e2, -⟩ | ⟨e1, e2, -⟩ <;> rw [e1, e2]
  · exact h
  · exact h'
theorem lohi {p q r s x v y w : Int} (v0 : 0 < v) (w0 : 0 < w) (h : LoP p q x v y w) (h' : HiP x v y w r s) : LexLe p q r s := by
  unfold LoP HiP LexLe at *
  have k1 : p * v < r * v ∨ p * v = r * v := by omega
  rcases k1 with k | k
  · exact .inl ((mul_lt_iff v0).mp k)
  · have e := Int.eq_of_mul_eq_mul_right (show v ≠ 0 by omega) k
    subst e
    right
    refine ⟨rfl, (mul_le_iff w0).mp ?_⟩
    omega
theorem meet_f {a b c d e f g h : Int} (ha : In100 a) (hb : In100 b) (hc : In100 c) (hd : In100 d) (he : In100 e) (hf : In100 f) (hg : In100 g) (hh : In100 h) (n1 : ¬(c = a ∧ d = b)) (n2 : ¬(g = e ∧ h = f)) : MeetF (Both a b c d e f g h) (meetD a b c d e f g h) := by
  have mc := meet_c ha hb hc hd he hf hg hh n1 n2
  have bt := fun x v y w v0 w0 (o : Both a b c d e f g h x v y w) => both_num v0 w0 o
  unfold meetD at mc ⊢
  by_cases w0 : wh a b c d e f g h = 0
  · rw [if_pos w0] at mc ⊢
    by_cases k0 : c0 a b c d e f = 0
    · rw [if_pos k0] at mc ⊢
      unfold commonD comD at mc ⊢
      have bl : ∀ x v y w, 0 < v → 0 < w → Both a b c d e f g h x v y w → _ ∧ _ := fun x v y w v0 w0 o => ⟨lo_le (onS_between v0 w0 o.1).1 (onS_between v0 w0 o.2).1, hi_le (onS_between v0 w0 o.1).2 (onS_between v0 w0 o.2).2⟩
      generalize mxx (mnx a b c d) (mny a b c d) (mnx e f g h) (mny e f g h) = p at *
      generalize mxy (mnx a b c d) (mny a b c d) (mnx e f g h) (mny e f g h) = q at *
      generalize mnx (mxx a b c d) (mxy a b c d) (mxx e f g h) (mxy e f g h) = r at *
      generalize mny (mxx a b c d) (mxy a b c d) (mxx e f g h) (mxy e f g h) = s at *
      by_cases k : r < p ∨ (r = p ∧ s < q)
      · rw [if_pos k]
        refine .non fun x v y w v0 w0 o => ?_
        obtain ⟨l1, l2⟩ := bl x v y w v0 w0 o
        have := lohi v0 w0 l1 l2
        unfold LexLe at this
        omega
      · rw [if_neg k] at mc ⊢
        by_cases k2 : p = r ∧ q = s
        · rw [if_pos k2] at mc ⊢
          obtain ⟨rfl, rfl⟩ := k2
          cases mc with
          | at_ _ _ _ _ _ _ _ _ _ _ o1 o2 =>
            refine .at_ p 1 q 1 (by decide) (by decide) (by decide) (by decide) (Int.gcd_one_right ..) (Int.gcd_one_right ..) ⟨o1, o2⟩ fun x v y w v0 w0 o => ?_
            obtain ⟨l1, l2⟩ := bl x v y w v0 w0 o
            unfold LoP at l1
            unfold HiP at l2
            omega
        · rw [if_neg k2] at mc ⊢
          cases mc with
          | along _ _ _ _ l o1 o2 o3 o4 => exact .along p q r s l ⟨o1, o2⟩ ⟨o3, o4⟩ bl
    · rw [if_neg k0]
      refine .non fun x v y w v0 w1 o => ?_
      obtain ⟨p, q, r, t, q0, p0, p1, t0, r0, r1, b1, b2, -, -⟩ := bt x v y w v0 w1 o
      rw [w0, Int.mul_zero] at b2
      rcases Int.mul_eq_zero.mp (show c0 a b c d e f * t = 0 by omega) with z | z
      · exact k0 z
      · omega
  · rw [if_neg w0] at mc ⊢
    by_cases k : 0 < c0 a b c d e f * (c0 a b c d e f + wh a b c d e f g h) ∨ 0 < e0 a b e f g h * (e0 a b e f g h - wh a b c d e f g h)
    · rw [if_pos k]
      refine .non fun x v y w v0 w1 o => ?_
      obtain ⟨p, q, r, t, q0, p0, p1, t0, r0, r1, b1, b2, -, -⟩ := bt x v y w v0 w1 o
      generalize wh a b c d e f g h = W at *
      generalize c0 a b c d e f = C at *
      generalize e0 a b e f g h = E at *
      have ww : 0 ≤ W * W := by
        rcases Int.le_total 0 W with z | z
        · exact Int.mul_nonneg z z
        · exact Int.mul_nonneg_of_nonpos_of_nonpos z z
      rcases k with k | k
      · have i1 : C * (C + W) * (t * t) = -(W * W * (r * (t - r))) := by grind
        have i2 := Int.mul_nonneg ww (Int.mul_nonneg r0 (show 0 ≤ t - r by omega))
        have i3 := Int.mul_pos k (Int.mul_pos t0 t0)
        omega
      · have i1 : E * (E - W) * (q * q) = -(W * W * (p * (q - p))) := by grind
        have i2 := Int.mul_nonneg ww (Int.mul_nonneg p0 (show 0 ≤ q - p by omega))
        have i3 := Int.mul_pos k (Int.mul_pos q0 q0)
        omega
    · rw [if_neg k] at mc ⊢
      obtain ⟨x, v, e1, v0, r1, -, s1, c1⟩ := lowD_spec (o := a * wh a b c d e f g h + e0 a b e f g h * (c - a)) w0
      obtain ⟨y, w, e2, w1, r2, -, s2, c2⟩ := lowD_spec (o := b * wh a b c d e f g h + e0 a b e f g h * (d - b)) w0
      rw [e1, e2] at mc ⊢
      cases mc with
      | at_ _ _ _ _ _ _ v9 w9 _ _ o1 o2 =>
        refine .at_ x v y w v0 w1 v9 w9 c1 c2 ⟨o1, o2⟩ fun x' v' y' w' v0' w0' o => ?_
        obtain ⟨p, q, r, t, q0, p0, p1, t0, r0, r1', b1, b2, f1, f2⟩ := bt x' v' y' w' v0' w0' o
        generalize wh a b c d e f g h = W at *
        generalize e0 a b e f g h = E at *
        constructor
        · refine Int.eq_of_mul_eq_mul_right (a := q * W) (Int.mul_ne_zero (by omega) w0) ?_
          have : x' * v * (q * W) = (a * q * W + (c - a) * (p * W)) * v' * v := by grind
          rw [this, ← b1]
          grind
        · refine Int.eq_of_mul_eq_mul_right (a := q * W) (Int.mul_ne_zero (by omega) w0) ?_
          have : y' * w * (q * W) = (b * q * W + (d - b) * (p * W)) * w' * w := by grind
          rw [this, ← b1]
          grind
end DV

namespace DV
open PySem PySem.Spec PyProof.Rows L2
local macro_rules | `(tactic| walk_at "dv") => `(tactic| simp (config := { failIfUnchanged := false, implicitDefEqProofs := false }) only [↓k_for_q, ↓e_for_n, ↓e_for_c, ↓k_sAppend1_q, ↓k_sAppend_q, ↓k_sRetOwn_q, ↓k_sPar2_q, ↓k_sPar_q, ↓k_sPar33_q, ↓k_sPar3_q, ↓k_some_q, ↓k_asI_q, ↓k_asS_q, ↓k_rng1_q, ↓k_one_q, ↓k_rng22_q, ↓k_rng21_q, ↓k_rng2_q, ↓k_two_q, ↓k_non_q, ↓k_no_q, ↓k_sSet_q, ↓k_sAsg_q, ↓k_sAsg2_q, ↓k_sIf_q, ↓k_sDrop_q, ↓k_sOwn_q, ↓k_sFor_q, ↓k_gs_q, ↓k_dOp2_q, ↓k_dOp_q, ↓k_dCh4_q, ↓k_dCh3_q, ↓k_dCh2_q, ↓k_dCh1_q, ↓k_dUn_q, ↓k_dTest_q, ↓k_dAnd_q, ↓k_dOr_q, ↓k_dNot_q, ↓k_dAndV_q, ↓k_dOrV_q, ↓k_dIf_q, ↓k_dCons2_q, ↓k_dCons_q, ↓k_dTup_q, ↓k_dLst_q, ↓k_dCall_q, ↓k_dIsi_q, ↓k_dIsi2_q, ↓k_dSl3_q, ↓k_dSl2_q, ↓k_dSl_q, ↓k_dRev_q, ↓k_dLc_q, ↓k_dB_q, ↓chB_b, ↓tsB_b, ↓dVar_s, ↓ownL_o, ↓ownD_o, ↓roL_l, ↓e_sAppend, ↓e_sRetOwn, ↓two_2, ↓three_3, ↓e_sPar, ↓e_sPar3, ↓asI_i, ↓e_dPart, ↓asS_l, ↓asS_t, ↓e_iSeq, ↓one_1, ↓e_iRng1D, ↓e_iRng2D, ↓wipeD_n, ↓wipeD_c, ↓frz_0, ↓frz_0v, ↓frz_s, ↓e_fnD, ↓e_sSeq, ↓e_sNext, ↓e_sBreak, ↓e_sCont, ↓e_sSet, ↓e_sAsg, ↓e_sAsg2, ↓e_sIf, ↓e_sRet, ↓e_sRetN, ↓e_sDrop, ↓e_sNever, ↓e_sOwn, ↓e_sFrz, ↓e_sFor, ↓e_gN, ↓e_gT_t, ↓e_gsNil_n, ↓e_gsCons_c, ↓e_dVar_0, ↓e_dVar_0t, ↓e_dC, ↓e_dOp, ↓e_dChain, ↓e_dUn, ↓e_dTest, ↓e_dAnd, ↓e_dOr, ↓e_dNot, ↓e_dAndV, ↓e_dOrV, ↓e_dIf, ↓e_dNil, ↓e_dCons, ↓e_dTup, ↓e_dLst, ↓e_dCall, ↓e_dB, ↓e_dIsi, ↓e_dIsi2, ↓e_dSl, ↓e_dRev, ↓e_dNo, ↓e_dYes, ↓e_dLc,
  ↓addD_ii, ↓addD_tt, ↓addD_ll, ↓subD_ii, ↓mulD_ii, ↓fdivD_ii, ↓modD_ii, ↓powD_10_9, ↓powD_10_6, ↓ltA_ii, ↓leA_ii, ↓gtA_ii, ↓geA_ii, ↓ltA_t2, ↓leA_t2, ↓gtA_t2, ↓geA_t2, ↓max2A_ii, ↓min2A_ii, ↓slh4, ↓slt4', ↓max2A_c, ↓min2A_c, ↓revD_l, ↓isNon_n, ↓isNon_t, ↓isNon_l, ↓notNon_n, ↓notNon_t, ↓isBD_bb, ↓negD_i, ↓notD_b, ↓absD_i, ↓intC_i, ↓intC_b, ↓lenD_l, ↓lenD_t, ↓listD_l, ↓listD_t, ↓tupleD_l, ↓tupleD_t, ↓allD_l, ↓anyD_l, ↓ixT0, ↓ixT1, ↓ixT2, ↓ixT3, ↓ixL0, ↓ixL1, ↓ixL2, ↓ixL3, ↓slD_l,
  eqD, neD,  sl0, sl1, sl2, sl3, sl4, sl5, sl6, sl7, sl8, sl9, sl10, sl11, sl12, slt0, slt1, slt2, slt3, slt4, slt5, slt6, slt7, slt8, slt9, slt10, slt11, slt12, lay_i, lay_b, lay_n, lay_t0, lay_l0, lay_t2, lay_t4, eqb_ii, eqb_bb, eqb_ss, eqb_nn, eqb_tt, eqb_ll, eqbs_nn, eqbs_cc, eqbs_nc, eqbs_cn, tyOk_n, tyOk_b, tyOk_i, tyOk_s, tyOk_t, tyOk_l, isi_n, isi_b, isi_i, isi_s, isi_t, isi_l,
  List.map_cons, List.map_nil, List.cons_append, List.nil_append, List.append_nil, List.append_assoc, List.length_cons, List.length_nil, List.getElem?_cons_zero, List.getElem?_cons_succ, List.set_cons_zero, List.set_cons_succ, List.replicate, Nat.reduceAdd, Nat.reduceSub, Nat.zero_add, Nat.reduceLeDiff, Nat.reduceEqDiff,
  if_true, if_false, true_and, and_true, and_self, Bool.not_true, Bool.not_false, Bool.false_eq_true, Bool.and_true, Bool.true_and, Bool.or_false, Bool.false_or, Bool.or_true, Bool.true_or, decide_eq_true_eq, decide_true, decide_false, beq_self_eq_true, beq_iff_eq, String.reduceEq, reduceIte, reduceCtorEq])
local macro_rules | `(tactic| walk_at "dw") => `(tactic| simp (config := { failIfUnchanged := false, implicitDefEqProofs := false }) only [↓k_for_q, ↓k_sAppend1_q, ↓k_sAppend_q, ↓k_sRetOwn_q, ↓k_sPar2_q, ↓k_sPar_q, ↓k_sPar33_q, ↓k_sPar3_q, ↓k_some_q, ↓k_asI_q, ↓k_asS_q, ↓k_rng1_q, ↓k_one_q, ↓k_rng22_q, ↓k_rng21_q, ↓k_rng2_q, ↓k_two_q, ↓k_non_q, ↓k_no_q, ↓k_sSet_q, ↓k_sAsg_q, ↓k_sAsg2_q, ↓k_sIf_q, ↓k_sDrop_q, ↓k_sOwn_q, ↓k_sFor_q, ↓k_gs_q, ↓k_dOp2_q, ↓k_dOp_q, ↓k_dCh4_q, ↓k_dCh3_q, ↓k_dCh2_q, ↓k_dCh1_q, ↓k_dUn_q, ↓k_dTest_q, ↓k_dAnd_q, ↓k_dOr_q, ↓k_dNot_q, ↓k_dAndV_q, ↓k_dOrV_q, ↓k_dIf_q, ↓k_dCons2_q, ↓k_dCons_q, ↓k_dTup_q, ↓k_dLst_q, ↓k_dCall_q, ↓k_dIsi_q, ↓k_dIsi2_q, ↓k_dSl3_q, ↓k_dSl2_q, ↓k_dSl_q, ↓k_dRev_q, ↓k_dLc_q, ↓k_dB_q, ↓chB_b, ↓tsB_b, ↓dVar_s, ↓ownL_o, ↓ownD_o, ↓roL_l, ↓e_sAppend, ↓e_sRetOwn, ↓two_2, ↓three_3, ↓e_sPar, ↓e_sPar3, ↓asI_i, ↓e_dPart, ↓asS_l, ↓asS_t, ↓e_iSeq, ↓one_1, ↓e_iRng1D, ↓e_iRng2D, ↓wipeD_n, ↓wipeD_c, ↓frz_0, ↓frz_0v, ↓frz_s, ↓e_fnD, ↓e_sSeq, ↓e_sNext, ↓e_sBreak, ↓e_sCont, ↓e_sSet, ↓e_sAsg, ↓e_sAsg2, ↓e_sIf, ↓e_sRet, ↓e_sRetN, ↓e_sDrop, ↓e_sNever, ↓e_sOwn, ↓e_sFrz, ↓e_sFor, ↓e_gN, ↓e_gT_t, ↓e_gsNil_n, ↓e_gsCons_c, ↓e_dVar_0, ↓e_dVar_0t, ↓e_dC, ↓e_dOp, ↓e_dChain, ↓e_dUn, ↓e_dTest, ↓e_dAnd, ↓e_dOr, ↓e_dNot, ↓e_dAndV, ↓e_dOrV, ↓e_dIf, ↓e_dNil, ↓e_dCons, ↓e_dTup, ↓e_dLst, ↓e_dCall, ↓e_dB, ↓e_dIsi, ↓e_dIsi2, ↓e_dSl, ↓e_dRev, ↓e_dNo, ↓e_dYes, ↓e_dLc,
  ↓addD_ii, ↓addD_tt, ↓addD_ll, ↓subD_ii, ↓mulD_ii, ↓fdivD_ii, ↓modD_ii, ↓powD_10_9, ↓powD_10_6, ↓ltA_ii, ↓leA_ii, ↓gtA_ii, ↓geA_ii, ↓ltA_t2, ↓leA_t2, ↓gtA_t2, ↓geA_t2, ↓max2A_ii, ↓min2A_ii, ↓slh4, ↓slt4', ↓max2A_c, ↓min2A_c, ↓revD_l, ↓isNon_n, ↓isNon_t, ↓isNon_l, ↓notNon_n, ↓notNon_t, ↓isBD_bb, ↓negD_i, ↓notD_b, ↓absD_i, ↓intC_i, ↓intC_b, ↓lenD_l, ↓lenD_t, ↓listD_l, ↓listD_t, ↓tupleD_l, ↓tupleD_t, ↓allD_l, ↓anyD_l, ↓ixT0, ↓ixT1, ↓ixT2, ↓ixT3, ↓ixL0, ↓ixL1, ↓ixL2, ↓ixL3, ↓slD_l,
  eqD, neD,  sl0, sl1, sl2, sl3, sl4, sl5, sl6, sl7, sl8, sl9, sl10, sl11, sl12, slt0, slt1, slt2, slt3, slt4, slt5, slt6, slt7, slt8, slt9, slt10, slt11, slt12, lay_i, lay_b, lay_n, lay_t0, lay_l0, lay_t2, lay_t4, eqb_ii, eqb_bb, eqb_ss, eqb_nn, eqb_tt, eqb_ll, eqbs_nn, eqbs_cc, eqbs_nc, eqbs_cn, tyOk_n, tyOk_b, tyOk_i, tyOk_s, tyOk_t, tyOk_l, isi_n, isi_b, isi_i, isi_s, isi_t, isi_l,
  List.map_cons, List.map_nil, List.cons_append, List.nil_append, List.append_nil, List.append_assoc, List.length_cons, List.length_nil, List.getElem?_cons_zero, List.getElem?_cons_succ, List.set_cons_zero, List.set_cons_succ, List.replicate, Nat.reduceAdd, Nat.reduceSub, Nat.zero_add, Nat.reduceLeDiff, Nat.reduceEqDiff,
  if_true, if_false, true_and, and_true, and_self, Bool.not_true, Bool.not_false, Bool.false_eq_true, Bool.and_true, Bool.true_and, Bool.or_false, Bool.false_or, Bool.or_true, Bool.true_or, decide_eq_true_eq, decide_true, decide_false, beq_self_eq_true, beq_iff_eq, String.reduceEq, reduceIte, reduceCtorEq])
/-! ### strokes as numbers; moved, exchanged -/
abbrev S4 := Int × Int × Int × Int
def sd (s : S4) : D := .tup [.int s.1, .int s.2.1, .int s.2.2.1, .int s.2.2.2]
def S4.ok (s : S4) : Prop := (-40 ≤ s.1 ∧ s.1 ≤ 40) ∧ (-40 ≤ s.2.1 ∧ s.2.1 ≤ 40) ∧ (-40 ≤ s.2.2.1 ∧ s.2.2.1 ≤ 40) ∧ (-40 ≤ s.2.2.2 ∧ s.2.2.2 ≤ 40) ∧ ¬(s.2.2.1 = s.1 ∧ s.2.2.2 = s.2.1)
theorem StrokeOk.s4 {d : D} (h : StrokeOk d) : ∃ s : S4, d = sd s ∧ s.ok := by
  obtain ⟨a, b, c, e, rfl, a1, a2, b1, b2, c1, c2, e1, e2, n⟩ := h
  exact ⟨(a, b, c, e), rfl, ⟨a1, a2⟩, ⟨b1, b2⟩, ⟨c1, c2⟩, ⟨e1, e2⟩, n⟩
theorem S4.ok.sok {s : S4} (h : s.ok) : StrokeOk (sd s) := ⟨_, _, _, _, rfl, h.1.1, h.1.2, h.2.1.1, h.2.1.2, h.2.2.1.1, h.2.2.1.2, h.2.2.2.1.1, h.2.2.2.1.2, h.2.2.2.2⟩
theorem strokes_s4 : ∀ {ds : List D}, (∀ d ∈ ds, StrokeOk d) → ∃ L : List S4, ds = L.map sd ∧ ∀ s ∈ L, s.ok
  | [], _ => ⟨[], rfl, fun s hs => by cases hs⟩
  | d :: ds, h => by
    obtain ⟨s, rfl, hs⟩ := (h d List.mem_cons_self).s4
    obtain ⟨L, rfl, hL⟩ := strokes_s4 fun d hd => h d (List.mem_cons_of_mem _ hd)
    exact ⟨s :: L, rfl, fun t ht => (List.mem_cons.mp ht).elim (fun e => e ▸ hs) (hL t)⟩
theorem slT3_1 {d e f : D} {Q : D → Prop} : slD (.tup [d, e, f]) (some 1) none Q = Q (.tup [e, f]) := by
  rw [slD_t]
  have e1 : ¬(HT.sIx [d, e, f].length 0 (some 1) = 0 ∧ HT.sIx [d, e, f].length [d, e, f].length none = [d, e, f].length) := by simp only [List.length_cons, List.length_nil]; decide
  have e2 : cutD [d, e, f] (some 1) none = [e, f] := rfl
  rw [e2]
  exact propext ⟨fun h => h.2, fun h => ⟨e1, h⟩⟩
theorem onS_moved {a b c d x v y w m n : Int} : OnS (a + m) (b + n) (c + m) (d + n) (x + m * v) v (y + n * w) w ↔ OnS a b c d x v y w := by
  unfold OnS
  refine exists_congr fun p => exists_congr fun q => ?_
  have e1 : (x + m * v) * q = x * q + m * v * q := by grind
  have e2 : ((a + m) * q + (c + m - (a + m)) * p) * v = (a * q + (c - a) * p) * v + m * v * q := by grind
  have e3 : (y + n * w) * q = y * q + n * w * q := by grind
  have e4 : ((b + n) * q + (d + n - (b + n)) * p) * w = (b * q + (d - b) * p) * w + n * w * q := by grind
  rw [e1, e2, e3, e4]
  omega
theorem onS_flip {a b c d x v y w : Int} : OnS b a d c y w x v ↔ OnS a b c d x v y w := by
  unfold OnS
  exact exists_congr fun p => exists_congr fun q => ⟨fun ⟨h1, h2, h3, h4, h5⟩ => ⟨h1, h2, h3, h5, h4⟩, fun ⟨h1, h2, h3, h4, h5⟩ => ⟨h1, h2, h3, h5, h4⟩⟩
theorem both_moved {a b c d e f g h x v y w m n : Int} : Both (a + m) (b + n) (c + m) (d + n) (e + m) (f + n) (g + m) (h + n) (x + m * v) v (y + n * w) w ↔ Both a b c d e f g h x v y w := and_congr onS_moved onS_moved
theorem both_flip {a b c d e f g h x v y w : Int} : Both b a d c f e h g y w x v ↔ Both a b c d e f g h x v y w := and_congr onS_flip onS_flip
theorem gcd_moved {x v m : Int} (h : Int.gcd x v = 1) : Int.gcd (x + m * v) v = 1 := by rw [Int.gcd_add_mul_right_left]; exact h
theorem unmoved {a b c d e f g h x v y w m n : Int} (o : Both (a + m) (b + n) (c + m) (d + n) (e + m) (f + n) (g + m) (h + n) x v y w) : Both a b c d e f g h (x - m * v) v (y - n * w) w :=
  both_moved.mp (by rw [show x - m * v + m * v = x by omega, show y - n * w + n * w = y by omega]; exact o)
theorem meetF_moved {Q : D → Prop} {a b c d e f g h m n : Int} {R : D} (bm : -100 ≤ m ∧ m ≤ 100) (bn : -100 ≤ n ∧ n ≤ 100) (hR : MeetF (Both a b c d e f g h) R) (k : ∀ R', MeetF (Both (a + m) (b + n) (c + m) (d + n) (e + m) (f + n) (g + m) (h + n)) R' → Q R') : c_law_moved_place [R, .lst [.int m, .int n]] Q := by
  unfold c_law_moved_place
  cases hR with
  | non z =>
    walk_at "dv"
    exact k _ (.non fun x v y w v0 w0 o => z _ _ _ _ v0 w0 (unmoved o))
  | at_ x v y w v0 w0 v9 w9 c1 c2 o u =>
    walk_at "dv"
    refine ⟨lay_of (n := 0) (by decide) (show PyData.strOk _ = true by decide +kernel), lay_of (n := 0) (by decide) (show PyData.strOk _ = true by decide +kernel), ?_⟩
    rw [if_neg (by decide)]
    walk_at "dv"
    refine ⟨mulOk (by omega), mulOk (by omega), k _ (.at_ _ _ _ _ v0 w0 v9 w9 (gcd_moved c1) (gcd_moved c2) (both_moved.mpr o) fun x' v' y' w' v0' w0' o' => ?_)⟩
    obtain ⟨z1, z2⟩ := u _ _ _ _ v0' w0' (unmoved o')
    constructor
    · grind
    · grind
  | along p q r s l o1 o2 bt =>
    walk_at "dv"
    refine ⟨lay_of (n := 0) (by decide) (show PyData.strOk _ = true by decide +kernel), lay_of (n := 0) (by decide) (show PyData.strOk _ = true by decide +kernel), ?_⟩
    rw [slT3_1]
    walk_at "dv"
    refine lcD_map (fun x => match x with
      | .tup [.int i, .int j] => .tup [.int (i + m), .int (j + n)]
      | x => x) _ _ _ (fun x hx Q1 q1 => ?_) (by show 2 ≤ sizeLine; decide) ?_
    · simp only [List.mem_cons, List.not_mem_nil, or_false] at hx
      rcases hx with rfl | rfl
      · walk_at "dv"
        exact q1
      · walk_at "dv"
        exact q1
    · rw [List.nil_append, List.map_cons, List.map_cons, List.map_nil]
      walk_at "dv"
      refine ⟨by simp, k _ (.along _ _ _ _ (by omega) ?_ ?_ fun x v y w v0 w0 o => ?_)⟩
      · have := (both_moved (m := m) (n := n)).mpr o1
        rwa [Int.mul_one, Int.mul_one] at this
      · have := (both_moved (m := m) (n := n)).mpr o2
        rwa [Int.mul_one, Int.mul_one] at this
      · obtain ⟨z1, z2⟩ := bt _ _ _ _ v0 w0 (unmoved o)
        unfold LoP HiP at *
        have e1 : (p + m) * v = p * v + m * v := by grind
        have e2 : (q + n) * w = q * w + n * w := by grind
        have e3 : (r + m) * v = r * v + m * v := by grind
        have e4 : (s + n) * w = s * w + n * w := by grind
        omega
theorem sqOk_moved {a b c d m n : Int} {L : List Sp2} (S : SqOk a b c d L) : SqOk (a + m) (b + n) (c + m) (d + n) (L.map fun s => (s.1 + m, s.2 + n)) := by
  have gm : ∀ x y : Int, GoesP (a + m) (b + n) (c + m) (d + n) (x + m) (y + n) ↔ GoesP a b c d x y := fun x y => by
    unfold GoesP inX
    refine exists_congr fun p => exists_congr fun q => ?_
    have e1 : (2 * (x + m) - 1) * q = (2 * x - 1) * q + 2 * m * q := by grind
    have e2 : (2 * (x + m) + 1) * q = (2 * x + 1) * q + 2 * m * q := by grind
    have e3 : 2 * (a + m) * q + 2 * (c + m - (a + m)) * p = 2 * a * q + 2 * (c - a) * p + 2 * m * q := by grind
    have e4 : (2 * (y + n) - 1) * q = (2 * y - 1) * q + 2 * n * q := by grind
    have e5 : (2 * (y + n) + 1) * q = (2 * y + 1) * q + 2 * n * q := by grind
    have e6 : 2 * (b + n) * q + 2 * (d + n - (b + n)) * p = 2 * b * q + 2 * (d - b) * p + 2 * n * q := by grind
    rw [e1, e2, e3, e4, e5, e6]
    omega
  refine ⟨fun s => ?_, ?_, fun i s t hs ht => ?_, ?_, ?_, by rw [List.length_map]; exact S.few⟩
  · have := gm (s.1 - m) (s.2 - n)
    rw [show s.1 - m + m = s.1 by omega, show s.2 - n + n = s.2 by omega] at this
    rw [this, ← S.mem (s.1 - m, s.2 - n), List.mem_map]
    constructor
    · rintro ⟨t, ht, rfl⟩
      rw [show (t.1 + m - m, t.2 + n - n) = t by ext <;> simp]
      exact ht
    · intro h
      exact ⟨_, h, by ext <;> simp⟩
  · rw [List.pairwise_map]
    refine S.ord.imp fun {s t} h => ?_
    unfold Bef Ahead at *
    dsimp only
    omega
  · rw [List.getElem?_map] at hs ht
    obtain ⟨s', h1, rfl⟩ := Option.map_eq_some_iff.mp hs
    obtain ⟨t', h2, rfl⟩ := Option.map_eq_some_iff.mp ht
    have := S.one i s' t' h1 h2
    unfold Near1 at *
    dsimp only
    omega
  · rw [List.head?_map, S.hd]; rfl
  · rw [List.getLast?_map, S.lst]; rfl
theorem sqOk_flip {a b c d : Int} {L : List Sp2} (S : SqOk a b c d L) : SqOk b a d c (L.map fun s => (s.2, s.1)) := by
  have gm : ∀ x y : Int, GoesP b a d c y x ↔ GoesP a b c d x y := fun x y => by
    unfold GoesP
    exact exists_congr fun p => exists_congr fun q => ⟨fun ⟨h1, h2, h3, h4, h5⟩ => ⟨h1, h2, h3, h5, h4⟩, fun ⟨h1, h2, h3, h4, h5⟩ => ⟨h1, h2, h3, h5, h4⟩⟩
  refine ⟨fun s => ?_, ?_, fun i s t hs ht => ?_, ?_, ?_, by rw [List.length_map]; exact S.few⟩
  · rw [gm s.2 s.1, ← S.mem (s.2, s.1), List.mem_map]
    constructor
    · rintro ⟨t, ht, rfl⟩
      exact ht
    · intro h
      exact ⟨_, h, rfl⟩
  · rw [List.pairwise_map]
    refine S.ord.imp fun {s t} h => ?_
    unfold Bef at *
    dsimp only
    exact ⟨h.2.1, h.1, fun z => h.2.2 ⟨z.2, z.1⟩⟩
  · rw [List.getElem?_map] at hs ht
    obtain ⟨s', h1, rfl⟩ := Option.map_eq_some_iff.mp hs
    obtain ⟨t', h2, rfl⟩ := Option.map_eq_some_iff.mp ht
    have := S.one i s' t' h1 h2
    unfold Near1 at *
    exact ⟨this.2, this.1⟩
  · rw [List.head?_map, S.hd]; rfl
  · rw [List.getLast?_map, S.lst]; rfl
theorem goesP_moved {a b c d m n x y : Int} : GoesP (a + m) (b + n) (c + m) (d + n) (x + m) (y + n) ↔ GoesP a b c d x y := by
  unfold GoesP inX
  refine exists_congr fun p => exists_congr fun q => ?_
  have e1 : (2 * (x + m) - 1) * q = (2 * x - 1) * q + 2 * m * q := by grind
  have e2 : (2 * (x + m) + 1) * q = (2 * x + 1) * q + 2 * m * q := by grind
  have e3 : 2 * (a + m) * q + 2 * (c + m - (a + m)) * p = 2 * a * q + 2 * (c - a) * p + 2 * m * q := by grind
  have e4 : (2 * (y + n) - 1) * q = (2 * y - 1) * q + 2 * n * q := by grind
  have e5 : (2 * (y + n) + 1) * q = (2 * y + 1) * q + 2 * n * q := by grind
  have e6 : 2 * (b + n) * q + 2 * (d + n - (b + n)) * p = 2 * b * q + 2 * (d - b) * p + 2 * n * q := by grind
  rw [e1, e2, e3, e4, e5, e6]
  omega
theorem eqbs_tps : ∀ L : List Sp2, D.eqbs (L.map tp) (L.map tp) = true
  | [] => by rw [List.map_nil]; simp only [D.eqbs]
  | s :: L => by
    rw [List.map_cons]
    simp only [D.eqbs]
    rw [eqbs_tps L, eqb_tp, decide_eq_true rfl]
    rfl
/-- where exchanged strokes meet -/
theorem meetF_flip {a b c d e f g h : Int} {R R' : D} (hR : MeetF (Both a b c d e f g h) R) (hR' : MeetF (Both b a d c f e h g) R') :
    (R = .non ∧ R' = .non) ∨ (∃ x v y w : Int, R = .tup [.str (Str.ofString "at"), .tup [.tup [.int x, .int v], .tup [.int y, .int w]]] ∧ R' = .tup [.str (Str.ofString "at"), .tup [.tup [.int y, .int w], .tup [.int x, .int v]]]) ∨ (∃ p q r s p' q' r' s' : Int, R = .tup [.str (Str.ofString "along"), .tup [.int p, .int q], .tup [.int r, .int s]] ∧ R' = .tup [.str (Str.ofString "along"), .tup [.int p', .int q'], .tup [.int r', .int s']]) := by
  cases hR with
  | non z =>
    refine .inl ⟨rfl, hR'.uniq (.non fun x v y w v0 w0 o => z y w x v w0 v0 (both_flip.mp o))⟩
  | at_ x v y w v0 w0 v9 w9 c1 c2 o u =>
    refine .inr (.inl ⟨x, v, y, w, rfl, hR'.uniq (.at_ y w x v w0 v0 w9 v9 c2 c1 (both_flip.mpr o) fun x' v' y' w' v0' w0' o' => ?_)⟩)
    exact (u _ _ _ _ w0' v0' (both_flip.mp o')).symm
  | along p q r s l o1 o2 bt =>
    refine .inr (.inr ?_)
    cases hR' with
    | non z => exact absurd (both_flip.mpr o1) (z _ _ _ _ (by decide) (by decide))
    | at_ x v y w v0 w0 v9 w9 c1 c2 o u =>
      exfalso
      obtain ⟨e1, e2⟩ := u _ _ _ _ (by decide) (by decide) (both_flip.mpr o1)
      obtain ⟨e3, e4⟩ := u _ _ _ _ (by decide) (by decide) (both_flip.mpr o2)
      have z1 : q = s := Int.eq_of_mul_eq_mul_right (show v ≠ 0 by omega) (by omega)
      have z2 : p = r := Int.eq_of_mul_eq_mul_right (show w ≠ 0 by omega) (by omega)
      omega
    | along p' q' r' s' l' _ _ _ => exact ⟨p, q, r, s, p', q', r', s', rfl, rfl⟩
theorem foldl_min : ∀ (ns : List Int) (n : Int), ns.foldl min n ≤ n ∧ (∀ k ∈ ns, ns.foldl min n ≤ k) ∧ (ns.foldl min n = n ∨ ns.foldl min n ∈ ns)
  | [], n => ⟨Int.le_refl _, (fun k hk => by cases hk), .inl rfl⟩
  | k :: ns, n => by
    obtain ⟨h1, h2, h3⟩ := foldl_min ns (min n k)
    rw [List.foldl_cons]
    refine ⟨by omega, fun j hj => ?_, ?_⟩
    · rcases List.mem_cons.mp hj with e | e
      · omega
      · exact h2 j e
    · rcases h3 with e | e
      · rcases Int.le_total n k with z | z
        · left; omega
        · right; rw [e, show min n k = k by omega]; exact List.mem_cons_self
      · exact .inr (List.mem_cons_of_mem _ e)
theorem foldl_max : ∀ (ns : List Int) (n : Int), n ≤ ns.foldl max n ∧ (∀ k ∈ ns, k ≤ ns.foldl max n) ∧ (ns.foldl max n = n ∨ ns.foldl max n ∈ ns)
  | [], n => ⟨Int.le_refl _, (fun k hk => by cases hk), .inl rfl⟩
  | k :: ns, n => by
    obtain ⟨h1, h2, h3⟩ := foldl_max ns (max n k)
    rw [List.foldl_cons]
    refine ⟨by omega, fun j hj => ?_, ?_⟩
    · rcases List.mem_cons.mp hj with e | e
      · omega
      · exact h2 j e
    · rcases h3 with e | e
      · rcases Int.le_total n k with z | z
        · right; rw [e, show max n k = k by omega]; exact List.mem_cons_self
        · left; omega
      · exact .inr (List.mem_cons_of_mem _ e)
def s4L (s : S4) : List Int := [s.1, s.2.1, s.2.2.1, s.2.2.2]
theorem shift_ok {Q : D → Prop} {L : List S4} (hl : L.length ≤ 1000) (hL : ∀ s ∈ L, s.ok) (k : ∀ m n : Int, (-100 ≤ m ∧ m ≤ 100) → (-100 ≤ n ∧ n ≤ 100) → (∀ s ∈ L, ∀ z ∈ s4L s, (-40 ≤ z + m ∧ z + m ≤ 40) ∧ (-40 ≤ z + n ∧ z + n ≤ 40)) → Q (.lst [.int m, .int n])) : c_law_shift [.bag, .lst (L.map sd)] Q := by
  unfold c_law_shift
  walk_at "dv"
  refine lcD_map (fun x => match x with
    | .tup xs => .lst xs
    | x => x) _ _ _ (fun x hx Q1 q1 => ?_) (by rw [List.length_map, List.length_nil, Nat.zero_add]; exact Nat.le_trans hl (by decide)) ?_
  · obtain ⟨s, hs, rfl⟩ := List.mem_map.mp hx
    unfold sd
    walk_at "dv"
    exact q1
  · rw [List.nil_append, List.map_map]
    walk_at "dv"
    refine ⟨L.map fun s => (s4L s).map D.int, ?_, ?_, ?_⟩
    · rw [List.map_map]
      exact List.map_congr_left fun s _ => rfl
    · rw [List.map_map, show (List.length ∘ fun s : S4 => (s4L s).map D.int) = fun _ => 4 from funext fun s => rfl, List.map_const', List.sum_replicate_nat]
      exact Nat.le_trans (show [D.int 0].length + L.length * 4 ≤ 4001 by simp; omega) (by decide)
    · have fl : [D.int 0] ++ (L.map fun s => (s4L s).map D.int).flatten = ((0 : Int) :: (L.map s4L).flatten).map D.int := by
        rw [List.map_cons, List.map_flatten, List.map_map]
        rfl
      rw [fl]
      have mn := foldl_min (L.map s4L).flatten 0
      have mx := foldl_max (L.map s4L).flatten 0
      have inb : ∀ z ∈ (L.map s4L).flatten, -40 ≤ z ∧ z ≤ 40 := fun z hz => by
        obtain ⟨l, hl, hz⟩ := List.mem_flatten.mp hz
        obtain ⟨s, hs, rfl⟩ := List.mem_map.mp hl
        have := hL s hs
        unfold S4.ok at this
        simp only [s4L, List.mem_cons, List.not_mem_nil, or_false] at hz
        omega
      have mem : ∀ s ∈ L, ∀ z ∈ s4L s, z ∈ (L.map s4L).flatten := fun s hs z hz => List.mem_flatten.mpr ⟨_, List.mem_map.mpr ⟨s, hs, rfl⟩, hz⟩
      walk_at "dv"
      refine ⟨0, (L.map s4L).flatten, rfl, ?_⟩
      walk_at "dv"
      refine ⟨0, (L.map s4L).flatten, rfl, ?_⟩
      generalize (L.map s4L).flatten.foldl min 0 = lo at *
      generalize (L.map s4L).flatten.foldl max 0 = hi at *
      have blo : -40 ≤ lo := by
        rcases mn.2.2 with e | e
        · omega
        · exact (inb _ e).1
      have bhi : hi ≤ 40 := by
        rcases mx.2.2 with e | e
        · omega
        · exact (inb _ e).2
      walk_at "dv"
      refine ⟨⟨by decide, by decide⟩, ?_⟩
      refine lcD_rel (fun _ y => ∃ m : Int, y = .int m ∧ (-100 ≤ m ∧ m ≤ 100) ∧ ∀ s ∈ L, ∀ z ∈ s4L s, -40 ≤ z + m ∧ z + m ≤ 40) _ _ _ (fun d hd Q1 q1 => ?_) (by simp [rngD]; decide) fun ys hy hr => ?_
      · walk_at "dv"
        refine pull_ok (by omega) (by omega) fun r r0 r1 => ?_
        walk_at "dv"
        refine q1 _ ⟨_, rfl, by omega, fun s hs z hz => ?_⟩
        have i1 := mn.2.1 z (mem s hs z hz)
        have i2 := mx.2.1 z (mem s hs z hz)
        omega
      · rcases ys with _ | ⟨y1, _ | ⟨y2, _ | ⟨_, _⟩⟩⟩ <;> first | (simp [rngD] at hy; done) | skip
        obtain ⟨m, e1, b1, k1⟩ := hr 0 (by simp [rngD]) (by simp)
        obtain ⟨n, e2, b2, k2⟩ := hr 1 (by simp [rngD]) (by simp)
        simp only [List.getElem_cons_zero, List.getElem_cons_succ] at e1 e2
        subst e1 e2
        exact k m n b1 b2 fun s hs z hz => ⟨k1 s hs z hz, k2 s hs z hz⟩
end DV

namespace DV
open PySem PySem.Spec PyProof.Rows L2
/-! ### closures of slices with a step -/
def k_s3c (x : D) (lo hi : Option Int) (Q : D → Prop) (st : Option Int) : Prop := sl3D x lo hi st Q
theorem k_s3c_q {x : D} {lo hi : Option Int} {Q : D → Prop} {st : Option Int} : k_s3c x lo hi Q st = sl3D x lo hi st Q := rfl
def k_s3b (c : DO) (ρ : List Slot) (x : D) (lo : Option Int) (Q : D → Prop) (hi : Option Int) : Prop := c ρ (k_s3c x lo hi Q)
theorem k_s3b_q {c : DO} {ρ : List Slot} {x : D} {lo : Option Int} {Q : D → Prop} {hi : Option Int} : k_s3b c ρ x lo Q hi = c ρ (k_s3c x lo hi Q) := rfl
def k_s3a (h c : DO) (ρ : List Slot) (x : D) (Q : D → Prop) (lo : Option Int) : Prop := h ρ (k_s3b c ρ x lo Q)
theorem k_s3a_q {h c : DO} {ρ : List Slot} {x : D} {Q : D → Prop} {lo : Option Int} : k_s3a h c ρ x Q lo = h ρ (k_s3b c ρ x lo Q) := rfl
def k_s3 (l h c : DO) (ρ : List Slot) (Q : D → Prop) (x : D) : Prop := l ρ (k_s3a h c ρ x Q)
theorem k_s3_q {l h c : DO} {ρ : List Slot} {Q : D → Prop} {x : D} : k_s3 l h c ρ Q x = l ρ (k_s3a h c ρ x Q) := rfl
theorem e_dSl3 {t : DE} {l h c : DO} {ρ : List Slot} {Q : D → Prop} : dSl3 t l h c ρ Q = t ρ (k_s3 l h c ρ Q) := rfl
theorem sl3_r2 {d e : D} {Q : D → Prop} : sl3D (.tup [d, e]) none none (some (-1)) Q = Q (.tup [e, d]) := by
  have e1 : ixs none none (-1) 2 = [1, 0] := by decide
  have e2 : pick [d, e] (ixs none none (-1) [d, e].length) = [e, d] := by
    rw [show [d, e].length = 2 from rfl, e1]; rfl
  show (_ ∧ _ ∧ (pick [d, e] (ixs none none (-1) [d, e].length)).length ≤ sizeLine ∧ Q (.tup (pick [d, e] (ixs none none (-1) [d, e].length)))) = _
  rw [e2]
  exact propext ⟨fun z => z.2.2.2, fun z => ⟨by decide, by decide, by show 2 ≤ sizeLine; decide, z⟩⟩
theorem pick_rev {α : Type} (xs : List α) : pick xs (ixsL none none (-1) xs.length) = xs.reverse := by
  unfold ixsL pick
  rw [PySem.W.krv_bounds]
  show (sliceRange ((xs.length : Int) - 1) (-1) (-1)).filterMap (xs[·]?) = _
  rw [PySem.W.krv_sliceRange, PySem.W.krv_range, List.filterMap_reverse]
  have := PySem.W.krv_all xs.toArray
  simp only [List.size_toArray, List.getElem?_toArray] at this
  rw [this]
theorem sl3_rl {ds : List D} {Q : D → Prop} : sl3D (.lst ds) none none (some (-1)) Q = Q (.lst ds.reverse) := by
  show (_ ∧ Q (.lst (pick ds (ixsL none none (-1) ds.length)))) = _
  rw [pick_rev]
  exact propext ⟨fun z => z.2, fun z => ⟨by decide, z⟩⟩
end DV

namespace DV
open PySem PySem.Spec PyProof.Rows L2
local macro_rules | `(tactic| walk_at "dv") => `(tactic| simp (config := { failIfUnchanged := false, implicitDefEqProofs := false }) only [↓k_rtNl_q, ↓k_sSetO_q, ↓k_sRetO_q, ↓k_nl_q, ↓k_nls_q, ↓k_nlc_q, ↓k_back_q, ↓k_lend_q, ↓k_put2_q, ↓k_put1_q, ↓k_put_q, ↓e_fnO, ↓e_sSetO, ↓e_sRetO, ↓e_dBor, ↓e_dBorO, ↓e_dBorA, ↓e_dBorT, ↓frz_0u, ↓frz_0t, ↓e_sLend, ↓ownK_o, ↓e_sPutD, ↓e_dD0, ↓inKD_d, ↓notInKD_d, ↓k_for_q, ↓e_for_n, ↓e_for_c, ↓k_sAppend1_q, ↓k_sAppend_q, ↓k_sRetOwn_q, ↓k_sPar2_q, ↓k_sPar_q, ↓k_sPar33_q, ↓k_sPar3_q, ↓k_some_q, ↓k_asI_q, ↓k_asS_q, ↓k_rng1_q, ↓k_one_q, ↓k_rng22_q, ↓k_rng21_q, ↓k_rng2_q, ↓k_two_q, ↓k_non_q, ↓k_no_q, ↓k_sSet_q, ↓k_sAsg_q, ↓k_sAsg2_q, ↓k_sIf_q, ↓k_sDrop_q, ↓k_sOwn_q, ↓k_sFor_q, ↓k_gs_q, ↓k_dOp2_q, ↓k_dOp_q, ↓k_dCh4_q, ↓k_dCh3_q, ↓k_dCh2_q, ↓k_dCh1_q, ↓k_dUn_q, ↓k_dTest_q, ↓k_dAnd_q, ↓k_dOr_q, ↓k_dNot_q, ↓k_dAndV_q, ↓k_dOrV_q, ↓k_dIf_q, ↓k_dCons2_q, ↓k_dCons_q, ↓k_dTup_q, ↓k_dLst_q, ↓k_dCall_q, ↓k_dIsi_q, ↓k_dIsi2_q, ↓k_dSl3_q, ↓k_dSl2_q, ↓k_dSl_q, ↓k_dRev_q, ↓k_s3_q, ↓k_s3a_q, ↓k_s3b_q, ↓k_s3c_q, ↓e_dSl3, ↓sl3_r2, ↓sl3_rl, ↓k_dLc_q, ↓k_dB_q, ↓chB_b, ↓tsB_b, ↓dVar_s, ↓ownL_o, ↓ownD_o, ↓roL_l, ↓e_sAppend, ↓e_sRetOwn, ↓two_2, ↓three_3, ↓e_sPar, ↓e_sPar3, ↓asI_i, ↓e_dPart, ↓asS_l, ↓asS_t, ↓e_iSeq, ↓one_1, ↓e_iRng1D, ↓e_iRng2D, ↓wipeD_n, ↓wipeD_c, ↓frz_0, ↓frz_0v, ↓frz_s, ↓e_fnD, ↓e_sSeq, ↓e_sNext, ↓e_sBreak, ↓e_sCont, ↓e_sSet, ↓e_sAsg, ↓e_sAsg2, ↓e_sIf, ↓e_sRet, ↓e_sRetN, ↓e_sDrop, ↓e_sNever, ↓e_sOwn, ↓e_sFrz, ↓e_sFor, ↓e_gN, ↓e_gT_t, ↓e_gsNil_n, ↓e_gsCons_c, ↓e_dVar_0, ↓e_dVar_0t, ↓e_dC, ↓e_dOp, ↓e_dChain, ↓e_dUn, ↓e_dTest, ↓e_dAnd, ↓e_dOr, ↓e_dNot, ↓e_dAndV, ↓e_dOrV, ↓e_dIf, ↓e_dNil, ↓e_dCons, ↓e_dTup, ↓e_dLst, ↓e_dCall, ↓e_dB, ↓e_dIsi, ↓e_dIsi2, ↓e_dSl, ↓e_dRev, ↓e_dNo, ↓e_dYes, ↓e_dLc,
  ↓addD_ii, ↓addD_tt, ↓addD_ll, ↓subD_ii, ↓mulD_ii, ↓fdivD_ii, ↓modD_ii, ↓powD_10_9, ↓powD_10_6, ↓ltA_ii, ↓leA_ii, ↓gtA_ii, ↓geA_ii, ↓ltA_t2, ↓leA_t2, ↓gtA_t2, ↓geA_t2, ↓max2A_ii, ↓min2A_ii, ↓slh4, ↓slt4', ↓max2A_c, ↓min2A_c, ↓revD_l, ↓isNon_n, ↓isNon_t, ↓isNon_l, ↓notNon_n, ↓notNon_t, ↓isBD_bb, ↓negD_i, ↓notD_b, ↓absD_i, ↓intC_i, ↓intC_b, ↓lenD_l, ↓lenD_t, ↓listD_l, ↓listD_t, ↓tupleD_l, ↓tupleD_t, ↓allD_l, ↓anyD_l, ↓ixT0, ↓ixT1, ↓ixT2, ↓ixT3, ↓ixL0, ↓ixL1, ↓ixL2, ↓ixL3, ↓slD_l,
  eqD, neD,  sl0, sl1, sl2, sl3, sl4, sl5, sl6, sl7, sl8, sl9, sl10, sl11, sl12, slt0, slt1, slt2, slt3, slt4, slt5, slt6, slt7, slt8, slt9, slt10, slt11, slt12, lay_i, lay_b, lay_n, lay_t0, lay_l0, lay_t2, lay_t4, eqb_ii, eqb_bb, eqb_ss, eqb_nn, eqb_tt, eqb_ll, eqbs_nn, eqbs_cc, eqbs_nc, eqbs_cn, tag_n, tag_c, tagS_v, tagS_u, tagS_o, tagS_t, back_n, back_c, backS_vt, backS_tt, backS_ot, backS_ut, backS_u, backS_v, backS_l, backS_d, ownS_l, ownS_d, ownS_t, ownS_i, ownS_n, noLst_l, noLst_i, noLst_b, noLst_s, noLst_n, noLst_d, noLst_t, noLsts_n, noLsts_c, nlc_l, nlc_d, nlc_i, nlc_b, nlc_t, tyOk_n, tyOk_b, tyOk_i, tyOk_s, tyOk_t, tyOk_l, isi_n, isi_b, isi_i, isi_s, isi_t, isi_l,
  List.map_cons, List.map_nil, List.cons_append, List.nil_append, List.append_nil, List.append_assoc, List.length_cons, List.length_nil, List.getElem?_cons_zero, List.getElem?_cons_succ, List.set_cons_zero, List.set_cons_succ, List.replicate, Nat.reduceAdd, Nat.reduceSub, Nat.zero_add, Nat.reduceLeDiff, Nat.reduceEqDiff,
  if_true, if_false, true_and, and_true, and_self, Bool.not_true, Bool.not_false, Bool.false_eq_true, Bool.and_true, Bool.true_and, Bool.or_false, Bool.false_or, Bool.or_true, Bool.true_or, decide_eq_true_eq, decide_true, decide_false, beq_self_eq_true, beq_iff_eq, String.reduceEq, reduceIte, reduceCtorEq])
local macro_rules | `(tactic| walk_at "dw") => `(tactic| simp (config := { failIfUnchanged := false, implicitDefEqProofs := false }) only [↓k_rtNl_q, ↓k_sSetO_q, ↓k_sRetO_q, ↓k_nl_q, ↓k_nls_q, ↓k_nlc_q, ↓k_back_q, ↓k_lend_q, ↓k_put2_q, ↓k_put1_q, ↓k_put_q, ↓e_fnO, ↓e_sSetO, ↓e_sRetO, ↓e_dBor, ↓e_dBorO, ↓e_dBorA, ↓e_dBorT, ↓frz_0u, ↓frz_0t, ↓e_sLend, ↓ownK_o, ↓e_sPutD, ↓e_dD0, ↓inKD_d, ↓notInKD_d, ↓k_for_q, ↓k_sAppend1_q, ↓k_sAppend_q, ↓k_sRetOwn_q, ↓k_sPar2_q, ↓k_sPar_q, ↓k_sPar33_q, ↓k_sPar3_q, ↓k_some_q, ↓k_asI_q, ↓k_asS_q, ↓k_rng1_q, ↓k_one_q, ↓k_rng22_q, ↓k_rng21_q, ↓k_rng2_q, ↓k_two_q, ↓k_non_q, ↓k_no_q, ↓k_sSet_q, ↓k_sAsg_q, ↓k_sAsg2_q, ↓k_sIf_q, ↓k_sDrop_q, ↓k_sOwn_q, ↓k_sFor_q, ↓k_gs_q, ↓k_dOp2_q, ↓k_dOp_q, ↓k_dCh4_q, ↓k_dCh3_q, ↓k_dCh2_q, ↓k_dCh1_q, ↓k_dUn_q, ↓k_dTest_q, ↓k_dAnd_q, ↓k_dOr_q, ↓k_dNot_q, ↓k_dAndV_q, ↓k_dOrV_q, ↓k_dIf_q, ↓k_dCons2_q, ↓k_dCons_q, ↓k_dTup_q, ↓k_dLst_q, ↓k_dCall_q, ↓k_dIsi_q, ↓k_dIsi2_q, ↓k_dSl3_q, ↓k_dSl2_q, ↓k_dSl_q, ↓k_dRev_q, ↓k_s3_q, ↓k_s3a_q, ↓k_s3b_q, ↓k_s3c_q, ↓e_dSl3, ↓sl3_r2, ↓sl3_rl, ↓k_dLc_q, ↓k_dB_q, ↓chB_b, ↓tsB_b, ↓dVar_s, ↓ownL_o, ↓ownD_o, ↓roL_l, ↓e_sAppend, ↓e_sRetOwn, ↓two_2, ↓three_3, ↓e_sPar, ↓e_sPar3, ↓asI_i, ↓e_dPart, ↓asS_l, ↓asS_t, ↓e_iSeq, ↓one_1, ↓e_iRng1D, ↓e_iRng2D, ↓wipeD_n, ↓wipeD_c, ↓frz_0, ↓frz_0v, ↓frz_s, ↓e_fnD, ↓e_sSeq, ↓e_sNext, ↓e_sBreak, ↓e_sCont, ↓e_sSet, ↓e_sAsg, ↓e_sAsg2, ↓e_sIf, ↓e_sRet, ↓e_sRetN, ↓e_sDrop, ↓e_sNever, ↓e_sOwn, ↓e_sFrz, ↓e_sFor, ↓e_gN, ↓e_gT_t, ↓e_gsNil_n, ↓e_gsCons_c, ↓e_dVar_0, ↓e_dVar_0t, ↓e_dC, ↓e_dOp, ↓e_dChain, ↓e_dUn, ↓e_dTest, ↓e_dAnd, ↓e_dOr, ↓e_dNot, ↓e_dAndV, ↓e_dOrV, ↓e_dIf, ↓e_dNil, ↓e_dCons, ↓e_dTup, ↓e_dLst, ↓e_dCall, ↓e_dB, ↓e_dIsi, ↓e_dIsi2, ↓e_dSl, ↓e_dRev, ↓e_dNo, ↓e_dYes, ↓e_dLc,
  ↓addD_ii, ↓addD_tt, ↓addD_ll, ↓subD_ii, ↓mulD_ii, ↓fdivD_ii, ↓modD_ii, ↓powD_10_9, ↓powD_10_6, ↓ltA_ii, ↓leA_ii, ↓gtA_ii, ↓geA_ii, ↓ltA_t2, ↓leA_t2, ↓gtA_t2, ↓geA_t2, ↓max2A_ii, ↓min2A_ii, ↓slh4, ↓slt4', ↓max2A_c, ↓min2A_c, ↓revD_l, ↓isNon_n, ↓isNon_t, ↓isNon_l, ↓notNon_n, ↓notNon_t, ↓isBD_bb, ↓negD_i, ↓notD_b, ↓absD_i, ↓intC_i, ↓intC_b, ↓lenD_l, ↓lenD_t, ↓listD_l, ↓listD_t, ↓tupleD_l, ↓tupleD_t, ↓allD_l, ↓anyD_l, ↓ixT0, ↓ixT1, ↓ixT2, ↓ixT3, ↓ixL0, ↓ixL1, ↓ixL2, ↓ixL3, ↓slD_l,
  eqD, neD,  sl0, sl1, sl2, sl3, sl4, sl5, sl6, sl7, sl8, sl9, sl10, sl11, sl12, slt0, slt1, slt2, slt3, slt4, slt5, slt6, slt7, slt8, slt9, slt10, slt11, slt12, lay_i, lay_b, lay_n, lay_t0, lay_l0, lay_t2, lay_t4, eqb_ii, eqb_bb, eqb_ss, eqb_nn, eqb_tt, eqb_ll, eqbs_nn, eqbs_cc, eqbs_nc, eqbs_cn, tag_n, tag_c, tagS_v, tagS_u, tagS_o, tagS_t, back_n, back_c, backS_vt, backS_tt, backS_ot, backS_ut, backS_u, backS_v, backS_l, backS_d, ownS_l, ownS_d, ownS_t, ownS_i, ownS_n, noLst_l, noLst_i, noLst_b, noLst_s, noLst_n, noLst_d, noLst_t, noLsts_n, noLsts_c, nlc_l, nlc_d, nlc_i, nlc_b, nlc_t, tyOk_n, tyOk_b, tyOk_i, tyOk_s, tyOk_t, tyOk_l, isi_n, isi_b, isi_i, isi_s, isi_t, isi_l,
  List.map_cons, List.map_nil, List.cons_append, List.nil_append, List.append_nil, List.append_assoc, List.length_cons, List.length_nil, List.getElem?_cons_zero, List.getElem?_cons_succ, List.set_cons_zero, List.set_cons_succ, List.replicate, Nat.reduceAdd, Nat.reduceSub, Nat.zero_add, Nat.reduceLeDiff, Nat.reduceEqDiff,
  if_true, if_false, true_and, and_true, and_self, Bool.not_true, Bool.not_false, Bool.false_eq_true, Bool.and_true, Bool.true_and, Bool.or_false, Bool.false_or, Bool.or_true, Bool.true_or, decide_eq_true_eq, decide_true, decide_false, beq_self_eq_true, beq_iff_eq, String.reduceEq, reduceIte, reduceCtorEq])
theorem squaresO_ok {Q : D → Prop} {a b c d : Int} (ha' : In90 a) (hb' : In90 b) (hc' : In90 c) (hd' : In90 d) (hq : ∀ L, SqOk a b c d L → Q (.lst (L.map tp))) : c_squaresO [.tup [.int a, .int b, .int c, .int d]] Q := by
  have ha := ha'.h
  have hb := hb'.h
  have hc := hc'.h
  have hd := hd'.h
  unfold c_squaresO
  walk_at "dv"
  refine sign_r fun r hr => ?_
  walk_at "dv"
  refine sign_r fun u hu => ?_
  walk_at "dv"
  refine ⟨fun m ρ => ∃ L h s5 s6 s7 s8, ρ = [.v (.tup [.int a, .int b, .int c, .int d]), .v (tp h), .own (.lst (L.map tp)), .v (.int r), .v (.int u), s5, s6, s7, s8] ∧ SqSo a b c d L h m, ⟨_, [(a, b)], (a, b), _, _, _, _, rfl, .start ha hb hc hd⟩, ?_⟩
  rintro m ρ ⟨L, h, s5, s6, s7, s8, rfl, S⟩
  obtain ⟨h1, h2⟩ := h
  simp only [tp]
  walk_at "dv"
  by_cases ne : h1 = c ∧ h2 = d
  · rw [if_neg (by simp [ne.1, ne.2])]
    exact hq L (S.ends ne)
  · rw [if_pos (by simp; omega)]
    have g := S.gone _ (List.mem_of_getLast? S.at_)
    have hh := goesP_in90 ha' hb' hc' hd' g
    refine lcD_filter (fun x => match x with
      | .tup [.int m, .int n] => @decide (¬(m = h1 ∧ n = h2) ∧ GoesP a b c d m n) (Classical.propDecidable _)
      | _ => false) _ _ _ (fun x hx Q1 P k1 k2 => ?_) (by show 3 ≤ sizeLine; decide) ?_
    · obtain ⟨m, n, rfl, i1, i2⟩ : ∃ m n : Int, x = .tup [.int m, .int n] ∧ In100 m ∧ In100 n := by
        unfold In100 In90 at *
        simp only [List.mem_cons, List.not_mem_nil, or_false] at hx
        rcases hx with rfl | rfl | rfl
        · exact ⟨_, _, rfl, by omega, by omega⟩
        · exact ⟨_, _, rfl, by omega, by omega⟩
        · exact ⟨_, _, rfl, by omega, by omega⟩
      clear hx
      walk_at "dv"
      split
      · rename_i e
        refine goes_ok ha hb hc hd i1 i2 fun t et => ?_
        walk_at "dv"
        cases t with
        | true => exact k1 (by simpa using ⟨fun z => by simpa [z] using e, et.mp rfl⟩)
        | false => exact k2 (by simpa using fun z w => by have := et.mpr w; cases this)
      · rename_i e
        walk_at "dv"
        exact k2 (by simp at e; simp [e])
    · obtain ⟨s, rest, ef, gs, bs, n1, fin⟩ := sq_next ha hb hc hd g ne hr hu (f := fun s => @decide (¬(s.1 = h1 ∧ s.2 = h2) ∧ GoesP a b c d s.1 s.2) (Classical.propDecidable _)) (fun s => by simp)
      have ef2 := filter_tp (f := fun s : Sp2 => @decide (¬(s.1 = h1 ∧ s.2 = h2) ∧ GoesP a b c d s.1 s.2) (Classical.propDecidable _)) (F := fun x => match x with
        | .tup [.int m, .int n] => @decide (¬(m = h1 ∧ n = h2) ∧ GoesP a b c d m n) (Classical.propDecidable _)
        | _ => false) (fun s => rfl) [(h1 + r, h2), (h1, h2 + u), (h1 + r, h2 + u)]
      rw [ef] at ef2
      have ef3 : List.filter (fun x => match x with
        | .tup [.int m, .int n] => @decide (¬(m = h1 ∧ n = h2) ∧ GoesP a b c d m n) (Classical.propDecidable _)
        | _ => false) [D.tup [D.int (h1 + r), D.int h2], D.tup [D.int h1, D.int (h2 + u)], D.tup [D.int (h1 + r), D.int (h2 + u)]] = .tup [.int s.1, .int s.2] :: rest.map tp := ef2
      rw [List.nil_append, ef3]
      walk_at "dv"
      obtain ⟨m', hm, S'⟩ := S.step ne gs bs n1 fin
      refine ⟨by rw [List.length_map]; have := S.few; exact Nat.lt_of_le_of_lt (show L.length ≤ 402 by omega) (by decide), ?_⟩
      refine ⟨m', hm, L ++ [s], s, _, _, _, _, congrArg (fun z => [_, _, Slot.own (D.lst z), _, _, _, _, _, _]) ?_, S'⟩
      rw [List.map_append]
      rfl
end DV

namespace DV
open PySem PySem.Spec PyProof.Rows L2
/-! ### dicts as data, plain laws -/
theorem nk_inj : ∀ {d e : D}, d.kin = true → e.kin = true → d.nk = e.nk → d = e
  | .int i, .int j, _, _, h => by simp only [D.nk, NestedKey.num.injEq] at h; rw [h]
  | .int i, .tup es, _, _, h => by simp [D.nk] at h
  | .tup ds, .int j, _, _, h => by simp [D.nk] at h
  | .tup ds, .tup es, h, g, e => by
    simp only [D.kin] at h g
    simp only [D.nk, NestedKey.tup.injEq] at e
    have key : ∀ (ds es : List D), (∀ x ∈ ds, ∀ y : D, x.kin = true → y.kin = true → x.nk = y.nk → x = y) → D.kins ds = true → D.kins es = true → D.nks ds = D.nks es → ds = es := by
      intro ds
      induction ds with
      | nil => intro es _ _ _ e; cases es <;> simp [D.nks] at e ⊢
      | cons d ds ih =>
        intro es hx h g e
        cases es with
        | nil => simp [D.nks] at e
        | cons y es =>
          simp only [D.nks, List.cons.injEq] at e
          simp only [D.kins, Bool.and_eq_true] at h g
          rw [hx d List.mem_cons_self y h.1 g.1 e.1, ih es (fun x hx' => hx x (List.mem_cons_of_mem _ hx')) h.2 g.2 e.2]
    rw [key ds es (fun x _ y a b c => nk_inj a b c) h g e]
  | .non, _, h, _, _ => by simp [D.kin] at h
  | .bl _, _, h, _, _ => by simp [D.kin] at h
  | .str _, _, h, _, _ => by simp [D.kin] at h
  | .lst _, _, h, _, _ => by simp [D.kin] at h
  | .dic _, _, h, _, _ => by simp [D.kin] at h
  | .bag, _, h, _, _ => by simp [D.kin] at h
  | .scr, _, h, _, _ => by simp [D.kin] at h
  | .int _, .non, _, h, _ => by simp [D.kin] at h
  | .int _, .bl _, _, h, _ => by simp [D.kin] at h
  | .int _, .str _, _, h, _ => by simp [D.kin] at h
  | .int _, .lst _, _, h, _ => by simp [D.kin] at h
  | .int _, .dic _, _, h, _ => by simp [D.kin] at h
  | .int _, .bag, _, h, _ => by simp [D.kin] at h
  | .int _, .scr, _, h, _ => by simp [D.kin] at h
  | .tup _, .non, _, h, _ => by simp [D.kin] at h
  | .tup _, .bl _, _, h, _ => by simp [D.kin] at h
  | .tup _, .str _, _, h, _ => by simp [D.kin] at h
  | .tup _, .lst _, _, h, _ => by simp [D.kin] at h
  | .tup _, .dic _, _, h, _ => by simp [D.kin] at h
  | .tup _, .bag, _, h, _ => by simp [D.kin] at h
  | .tup _, .scr, _, h, _ => by simp [D.kin] at h
theorem kin_eq {d e : D} (h : d.kin = true) (g : e.kin = true) : (D.eqb d e = true ↔ d = e) := by
  rw [eqb_nk h g, decide_eq_true_eq]
  exact ⟨nk_inj h g, fun z => by rw [z]⟩
/-- keys -/
def Ky (d : D) : Prop := d.flt = true ∨ d.kok = true
theorem Ky.eq {d e : D} (h : Ky d) (g : Ky e) : (D.eqb d e = true ↔ d = e) := by
  rcases h with h | h <;> rcases g with g | g
  · obtain ⟨k, rfl⟩ := flt_key h
    obtain ⟨j, rfl⟩ := flt_key g
    rw [eqb_key, decide_eq_true_eq]
    exact ⟨fun z => by rw [z], fun z => by rcases k with k | k <;> rcases j with j | j <;> first | (injection z with z; rw [z]) | cases z⟩
  · refine ⟨fun z => ?_, fun z => by rw [z, kok_flt g] at h; cases h⟩
    cases d <;> first | (simp [D.flt] at h; done) | skip
    all_goals cases e <;> first | (simp [D.kok] at g; done) | (simp [D.eqb] at z; done)
  · refine ⟨fun z => ?_, fun z => by rw [← z, kok_flt h] at g; cases g⟩
    cases e <;> first | (simp [D.flt] at g; done) | skip
    all_goals cases d <;> first | (simp [D.kok] at h; done) | (simp [D.eqb] at z; done)
  · exact kin_eq (kok_kin h) (kok_kin g)
theorem dgetD_nil {k : D} : dgetD [] k = none := rfl
theorem dgetD_pos {p : D × D} {r : List (D × D)} {k : D} (e : D.eqb p.1 k = true) : dgetD (p :: r) k = some p.2 := by simp [dgetD, e]
theorem dgetD_neg {p : D × D} {r : List (D × D)} {k : D} (e : ¬D.eqb p.1 k = true) : dgetD (p :: r) k = dgetD r k := by simp [dgetD, e]
theorem dgetD_app {r t : List (D × D)} {k : D} : dgetD (r ++ t) k = (dgetD r k).or (dgetD t k) := by
  induction r with
  | nil => simp [dgetD]
  | cons p r ih =>
    rw [List.cons_append]
    by_cases e : D.eqb p.1 k = true
    · rw [dgetD_pos e, dgetD_pos e]; rfl
    · rw [dgetD_neg e, dgetD_neg e, ih]
theorem dgetD_any {k : D} : ∀ kvs : List (D × D), (dgetD kvs k).isSome = kvs.any fun z => D.eqb z.1 k
  | [] => rfl
  | p :: r => by
    rw [List.any_cons]
    by_cases e : D.eqb p.1 k = true
    · rw [dgetD_pos e, e]; rfl
    · rw [dgetD_neg e, dgetD_any r, Bool.eq_false_iff.mpr e, Bool.false_or]
theorem dgetD_map {k j v : D} : ∀ {kvs : List (D × D)}, (∀ q ∈ kvs, Ky q.1) → Ky k → Ky j → dgetD (kvs.map fun z => if D.eqb z.1 k = true then (z.1, v) else z) j = (dgetD kvs j).map fun x => if D.eqb k j = true then v else x
  | [], _, _, _ => rfl
  | p :: r, h, hk, hj => by
    have hp := h p List.mem_cons_self
    have ih := dgetD_map (j := j) (v := v) (fun q hq => h q (List.mem_cons_of_mem _ hq)) hk hj
    rw [List.map_cons]
    by_cases a : D.eqb p.1 k = true
    · have e : p.1 = k := (hp.eq hk).mp a
      rw [if_pos a]
      by_cases b : D.eqb p.1 j = true
      · rw [dgetD_pos (p := (p.1, v)) b, dgetD_pos b, Option.map_some, if_pos (e ▸ b)]
      · rw [dgetD_neg (p := (p.1, v)) b, dgetD_neg b, ih]
    · rw [if_neg a]
      by_cases b : D.eqb p.1 j = true
      · have e : p.1 = j := (hp.eq hj).mp b
        rw [dgetD_pos b, dgetD_pos b, Option.map_some, if_neg fun z => a (by have := (hk.eq hj).mp z; rw [e, ← this]; exact (hk.eq hk).mpr rfl)]
      · rw [dgetD_neg b, dgetD_neg b, ih]
theorem dgetD_put {kvs : List (D × D)} {k j v : D} (h : ∀ q ∈ kvs, Ky q.1) (hk : Ky k) (hj : Ky j) : dgetD (dputD kvs k v) j = if D.eqb k j = true then some v else dgetD kvs j := by
  unfold dputD
  by_cases a : (kvs.any fun z => D.eqb z.1 k) = true
  · rw [if_pos a, dgetD_map h hk hj]
    by_cases b : D.eqb k j = true
    · have e : k = j := (hk.eq hj).mp b
      subst e
      rw [← dgetD_any] at a
      obtain ⟨x, hx⟩ := Option.isSome_iff_exists.mp a
      rw [hx, if_pos b, Option.map_some, if_pos b]
    · rw [if_neg b]
      simp only [if_neg b, Option.map_id']
  · rw [if_neg a, dgetD_app]
    by_cases b : D.eqb k j = true
    · have e : k = j := (hk.eq hj).mp b
      subst e
      rw [← dgetD_any] at a
      have : dgetD kvs k = none := by simpa using a
      rw [this, if_pos b]
      simp [dgetD, b]
    · rw [if_neg b]
      have : dgetD [(k, v)] j = none := by simp [dgetD, b]
      rw [this]
      simp
theorem keys_put {kvs : List (D × D)} {k v : D} : ∀ q ∈ dputD kvs k v, q.1 = k ∨ ∃ p ∈ kvs, q.1 = p.1 := fun q hq => by
  unfold dputD at hq
  split at hq
  · obtain ⟨p, hp, rfl⟩ := List.mem_map.mp hq
    right
    refine ⟨p, hp, ?_⟩
    split <;> rfl
  · rcases List.mem_append.mp hq with h | h
    · exact .inr ⟨q, h, rfl⟩
    · rw [List.mem_singleton.mp h]
      exact .inl rfl
theorem vals_put {kvs : List (D × D)} {k v : D} : ∀ q ∈ dputD kvs k v, q.2 = v ∨ ∃ p ∈ kvs, q.2 = p.2 := fun q hq => by
  unfold dputD at hq
  split at hq
  · obtain ⟨p, hp, rfl⟩ := List.mem_map.mp hq
    split
    · exact .inl rfl
    · exact .inr ⟨p, hp, rfl⟩
  · rcases List.mem_append.mp hq with h | h
    · exact .inr ⟨q, h, rfl⟩
    · rw [List.mem_singleton.mp h]
      exact .inl rfl
theorem keys_merge {P : D → Prop} : ∀ {more kvs : List (D × D)}, (∀ q ∈ kvs, P q.1) → (∀ q ∈ more, P q.1) → ∀ q ∈ mergeD kvs more, P q.1
  | [], kvs, h, _ => h
  | p :: more, kvs, h, h' => keys_merge (more := more) (kvs := dputD kvs p.1 p.2) (fun q hq => by
      rcases keys_put q hq with e | ⟨z, hz, e⟩
      · rw [e]; exact h' p List.mem_cons_self
      · rw [e]; exact h z hz) fun q hq => h' q (List.mem_cons_of_mem _ hq)
theorem vals_merge {P : D → Prop} : ∀ {more kvs : List (D × D)}, (∀ q ∈ kvs, P q.2) → (∀ q ∈ more, P q.2) → ∀ q ∈ mergeD kvs more, P q.2
  | [], kvs, h, _ => h
  | p :: more, kvs, h, h' => vals_merge (more := more) (kvs := dputD kvs p.1 p.2) (fun q hq => by
      rcases vals_put q hq with e | ⟨z, hz, e⟩
      · rw [e]; exact h' p List.mem_cons_self
      · rw [e]; exact h z hz) fun q hq => h' q (List.mem_cons_of_mem _ hq)
theorem some_merge {k : D} (hk : Ky k) : ∀ {more kvs : List (D × D)}, (∀ q ∈ kvs, Ky q.1) → (∀ q ∈ more, Ky q.1) → (dgetD (mergeD kvs more) k).isSome = ((dgetD kvs k).isSome || more.any fun z => D.eqb z.1 k)
  | [], kvs, _, _ => by simp [mergeD]
  | p :: more, kvs, h, h' => by
    have hp := h' p List.mem_cons_self
    have := some_merge hk (more := more) (kvs := dputD kvs p.1 p.2) (fun q hq => by
      rcases keys_put q hq with e | ⟨z, hz, e⟩
      · rw [e]; exact hp
      · rw [e]; exact h z hz) fun q hq => h' q (List.mem_cons_of_mem _ hq)
    show (dgetD (mergeD (dputD kvs p.1 p.2) more) k).isSome = _
    rw [this, dgetD_put h hp hk, List.any_cons]
    by_cases b : D.eqb p.1 k = true
    · rw [if_pos b, b]; simp
    · rw [if_neg b, Bool.eq_false_iff.mpr b]; simp
theorem nls_of {kvs : List (D × D)} (h : ∀ q ∈ kvs, q.2.noLst = true) : D.noLsts (kvs.map (·.2)) = true := by
  induction kvs with
  | nil => simp [D.noLsts]
  | cons p kvs ih => simp [D.noLsts, h p List.mem_cons_self, ih fun q hq => h q (List.mem_cons_of_mem _ hq)]
/-! spots as keys -/
theorem kok_tp (s : Sp2) : (tp s).kok = true := by simp [tp, D.kok, D.kins, D.kin, D.nks, D.nk, NestedKey.depth, NestedKey.depthAll]
/-- dict([(spot, True) for ..]) -/
def knownD (L : List Sp2) : List (D × D) := mergeD [] (L.map fun s => (tp s, D.bl true))
theorem known_keys {L : List Sp2} : ∀ q ∈ knownD L, q.1.kok = true := keys_merge (P := fun d => d.kok = true) (fun _ h => absurd h (by simp)) fun q hq => by
  obtain ⟨s, _, rfl⟩ := List.mem_map.mp hq
  exact kok_tp s
theorem known_vals {L : List Sp2} : D.noLsts ((knownD L).map (·.2)) = true := nls_of (vals_merge (P := fun d => d.noLst = true) (fun _ h => absurd h (by simp)) fun q hq => by
  obtain ⟨s, _, rfl⟩ := List.mem_map.mp hq
  rfl)
theorem known_get {L : List Sp2} {s : Sp2} : (dgetD (knownD L) (tp s)).isSome = decide (s ∈ L) := by
  unfold knownD
  rw [some_merge (.inr (kok_tp s)) (fun _ h => absurd h (by simp)) fun q hq => by
    obtain ⟨s, _, rfl⟩ := List.mem_map.mp hq
    exact .inr (kok_tp s)]
  rw [dgetD_nil, Option.isSome_none, Bool.false_or, List.any_map, ← any_tp, List.any_map]
  rfl
theorem known_of {Q : D → Prop} {L : List Sp2} (h : Q (.dic (knownD L))) : dictC [.lst (L.map fun s => .tup [tp s, .bl true])] Q :=
  ⟨L.map fun s => (tp s, D.bl true), by rw [List.map_map]; rfl, .inr fun q hq => by
    obtain ⟨s, _, rfl⟩ := List.mem_map.mp hq
    exact kok_tp s, h⟩
/-! a stroke turned about -/
theorem ahead_r {c a m m' : Int} (h : Ahead (a - c) m m') : Ahead (c - a) m' m := by unfold Ahead at *; omega
theorem SqOk.rev {a b c d : Int} {L : List Sp2} (S : SqOk a b c d L) : SqOk c d a b L.reverse where
  mem := fun s => by rw [List.mem_reverse, S.mem]; exact goesP_r.symm
  ord := by
    rw [List.pairwise_reverse]
    exact S.ord.imp fun h => ⟨ahead_r h.1, ahead_r h.2.1, fun z => h.2.2 ⟨z.1.symm, z.2.symm⟩⟩
  one := fun i s t h1 h2 => by
    have hi : i + 1 < L.length := by have := (List.getElem?_eq_some_iff.mp h2).1; simpa using this
    rw [List.getElem?_reverse (by omega)] at h1
    rw [List.getElem?_reverse (by omega)] at h2
    have := S.one (L.length - 1 - (i + 1)) t s h2 (by rw [← h1]; congr 1; omega)
    unfold Near1 at *
    omega
  hd := by rw [List.head?_reverse]; exact S.lst
  lst := by rw [List.getLast?_reverse]; exact S.hd
  few := by rw [List.length_reverse]; exact S.few
end DV

namespace DV
open PySem PySem.Spec PyProof.Rows L2
/-! ### closures of DxA .. DxG -/
def k_zipL (Q : D → Prop) (ds : List D) : Prop := match ds with
  | [.lst xs, .lst ys] => Q (.lst (zipD xs ys))
  | _ => False
theorem k_zipL_q {Q : D → Prop} {xs ys : List D} : k_zipL Q [.lst xs, .lst ys] = Q (.lst (zipD xs ys)) := rfl
theorem e_dZipL {t : DA} {ρ : List Slot} {Q : D → Prop} : dZipL t ρ Q = t ρ (k_zipL Q) := rfl
def k_zip (Q : List D → Prop) (ds : List D) : Prop := match ds with
  | [.lst xs, .lst ys] => Q (zipD xs ys)
  | _ => False
theorem k_zip_q {Q : List D → Prop} {xs ys : List D} : k_zip Q [.lst xs, .lst ys] = Q (zipD xs ys) := rfl
theorem e_iZipD {t : DA} {ρ : List Slot} {Q : List D → Prop} : iZipD t ρ Q = t ρ (k_zip Q) := rfl
def k_enum (Q : List D → Prop) (ds : List D) : Prop := match ds with
  | [.lst xs] => Q (enumD 0 xs)
  | _ => False
theorem k_enum_q {Q : List D → Prop} {xs : List D} : k_enum Q [.lst xs] = Q (enumD 0 xs) := rfl
theorem e_iEnumD {t : DA} {ρ : List Slot} {Q : List D → Prop} : iEnumD t ρ Q = t ρ (k_enum Q) := rfl
def k_keys (Q : List D → Prop) (d : D) : Prop := match d with
  | .dic kvs => (∀ q ∈ kvs, q.1.flt = true) ∧ Q (kvs.map (·.1))
  | _ => False
theorem k_keys_q {Q : List D → Prop} {kvs : List (D × D)} : k_keys Q (.dic kvs) = ((∀ q ∈ kvs, q.1.flt = true) ∧ Q (kvs.map (·.1))) := rfl
theorem e_iKeysD {t : DE} {ρ : List Slot} {Q : List D → Prop} : iKeysD t ρ Q = t ρ (k_keys Q) := rfl
def k_vals (Q : List D → Prop) (d : D) : Prop := match d with
  | .dic kvs => (∀ q ∈ kvs, q.1.flt = true) ∧ Q (kvs.map (·.2))
  | _ => False
theorem k_vals_q {Q : List D → Prop} {kvs : List (D × D)} : k_vals Q (.dic kvs) = ((∀ q ∈ kvs, q.1.flt = true) ∧ Q (kvs.map (·.2))) := rfl
theorem e_iValsD {t : DE} {ρ : List Slot} {Q : List D → Prop} : iValsD t ρ Q = t ρ (k_vals Q) := rfl
def k_items (Q : List D → Prop) (d : D) : Prop := match d with
  | .dic kvs => (∀ q ∈ kvs, q.1.flt = true) ∧ Q (kvs.map tup2)
  | _ => False
theorem k_items_q {Q : List D → Prop} {kvs : List (D × D)} : k_items Q (.dic kvs) = ((∀ q ∈ kvs, q.1.flt = true) ∧ Q (kvs.map tup2)) := rfl
theorem e_iItemsD {t : DE} {ρ : List Slot} {Q : List D → Prop} : iItemsD t ρ Q = t ρ (k_items Q) := rfl
def k_tru (Q : Bool → Prop) (x : D) : Prop := truD x Q
theorem k_tru_q {Q : Bool → Prop} {x : D} : k_tru Q x = truD x Q := rfl
theorem e_dTru {t : DE} {ρ : List Slot} {Q : Bool → Prop} : dTru t ρ Q = t ρ (k_tru Q) := rfl
theorem truD_l {ds : List D} {Q : Bool → Prop} : truD (.lst ds) Q = Q (!ds.isEmpty) := rfl
theorem truD_t {ds : List D} {Q : Bool → Prop} : truD (.tup ds) Q = Q (!ds.isEmpty) := rfl
theorem truD_b {b : Bool} {Q : Bool → Prop} : truD (.bl b) Q = Q b := rfl
theorem truD_n {Q : Bool → Prop} : truD .non Q = Q false := rfl
def k_rev (i : Nat) (N : DN) (ρ : List Slot) (ds : List D) : Prop := N.nx (ρ.set i (.own (.lst ds.reverse)))
theorem k_rev_q {i : Nat} {N : DN} {ρ : List Slot} {ds : List D} : k_rev i N ρ ds = N.nx (ρ.set i (.own (.lst ds.reverse))) := rfl
theorem e_sRev {i : Nat} {N : DN} {ρ : List Slot} : sRev i N ρ = ownL ρ[i]? (k_rev i N ρ) := rfl
def k_clr (i : Nat) (N : DN) (ρ : List Slot) (ds : List D) : Prop := N.nx (ρ.set i (.own (.lst [])))
theorem k_clr_q {i : Nat} {N : DN} {ρ : List Slot} {ds : List D} : k_clr i N ρ ds = N.nx (ρ.set i (.own (.lst []))) := rfl
theorem e_sClr {i : Nat} {N : DN} {ρ : List Slot} : sClr i N ρ = ownL ρ[i]? (k_clr i N ρ) := rfl
def k_ins3 (i : Nat) (N : DN) (ρ : List Slot) (ds : List D) (j : Int) (d : D) : Prop := (0 ≤ j ∧ j < 2 ^ 63 ∧ ds.length < sizeLine) ∧ N.nx (ρ.set i (.own (.lst (ds.take j.toNat ++ [d] ++ ds.drop j.toNat))))
theorem k_ins3_q {i : Nat} {N : DN} {ρ : List Slot} {ds : List D} {j : Int} {d : D} : k_ins3 i N ρ ds j d = ((0 ≤ j ∧ j < 2 ^ 63 ∧ ds.length < sizeLine) ∧ N.nx (ρ.set i (.own (.lst (ds.take j.toNat ++ [d] ++ ds.drop j.toNat))))) := rfl
def k_ins2 (i : Nat) (tv : DE) (N : DN) (ρ : List Slot) (ds : List D) (k : D) : Prop := match k with
  | .int j => tv ρ (k_ins3 i N ρ ds j)
  | _ => False
theorem k_ins2_q {i : Nat} {tv : DE} {N : DN} {ρ : List Slot} {ds : List D} {j : Int} : k_ins2 i tv N ρ ds (.int j) = tv ρ (k_ins3 i N ρ ds j) := rfl
def k_ins (i : Nat) (ti tv : DE) (N : DN) (ρ : List Slot) (ds : List D) : Prop := ti ρ (k_ins2 i tv N ρ ds)
theorem k_ins_q {i : Nat} {ti tv : DE} {N : DN} {ρ : List Slot} {ds : List D} : k_ins i ti tv N ρ ds = ti ρ (k_ins2 i tv N ρ ds) := rfl
theorem e_sIns {i : Nat} {ti tv : DE} {N : DN} {ρ : List Slot} : sIns i ti tv N ρ = ownL ρ[i]? (k_ins i ti tv N ρ) := rfl
def k_move (i j : Nat) (N : DN) (ρ : List Slot) (d : D) : Prop := i ≠ j ∧ N.nx ((ρ.set j .un).set i (.own d))
theorem k_move_q {i j : Nat} {N : DN} {ρ : List Slot} {d : D} : k_move i j N ρ d = (i ≠ j ∧ N.nx ((ρ.set j .un).set i (.own d))) := rfl
theorem e_sMove {i j : Nat} {N : DN} {ρ : List Slot} : sMove i j N ρ = ownD ρ[j]? (k_move i j N ρ) := rfl
def k_lc2 (g : DG) (tt : DT) (it1 : DI) (g1 : DG) (tt1 : DT) (te : DE) (vs1 : List Nat) (ρ : List Slot) (Q : D → Prop) (ds : List D) : Prop := lc2D g tt it1 g1 tt1 te vs1 ρ ds [] Q
theorem k_lc2_q {g : DG} {tt : DT} {it1 : DI} {g1 : DG} {tt1 : DT} {te : DE} {vs1 : List Nat} {ρ : List Slot} {Q : D → Prop} {ds : List D} : k_lc2 g tt it1 g1 tt1 te vs1 ρ Q ds = lc2D g tt it1 g1 tt1 te vs1 ρ ds [] Q := rfl
theorem e_dLc2 {it : DI} {g : DG} {tt : DT} {it1 : DI} {g1 : DG} {tt1 : DT} {te : DE} {vs vs1 : List Nat} {ρ : List Slot} {Q : D → Prop} : dLc2 it g tt it1 g1 tt1 te vs vs1 ρ Q = it ρ (k_lc2 g tt it1 g1 tt1 te vs1 (wipeD ρ vs) Q) := rfl
theorem inTD_t {x : D} {ds : List D} {Q : D → Prop} : inTD x (.tup ds) Q = (x.lay = true ∧ (D.tup ds).lay = true ∧ Q (.bl (ds.any fun z => D.eqb z x))) := rfl
theorem notBD_bb {a b : Bool} {Q : D → Prop} : notBD (.bl a) (.bl b) Q = Q (.bl (!decide (a = b))) := rfl
theorem dictK_d {kvs : List (D × D)} {Q : D → Prop} : dictK [.dic kvs] Q = ((∀ q ∈ kvs, q.1.flt = true) ∧ Q (.dic kvs)) := rfl
theorem sortedC_l {xs : List D} {Q : D → Prop} : sortedC [.lst xs] Q = (SrtD xs ∧ ∀ ys, SortTo xs ys → Q (.lst ys)) := rfl
theorem sortedC_d {kvs : List (D × D)} {Q : D → Prop} : sortedC [.dic kvs] Q = (SrtD (kvs.map (·.1)) ∧ ∀ ys, SortTo (kvs.map (·.1)) ys → Q (.lst ys)) := rfl
theorem fgs_n : fgs [] = [] := rfl
theorem fgs_c {s : Slot} {ρ : List Slot} : fgs (s :: ρ) = s.fg :: fgs ρ := rfl
theorem fg_v {d : D} : Slot.fg (.v d) = .v d := rfl
theorem fg_t {u : V} {d : D} : Slot.fg (.tg u d) = .tg u d := rfl
theorem fg_u : Slot.fg .un = .un := rfl
theorem fg_o {d : D} : Slot.fg (.own d) = .un := rfl
/-! ### what may be sorted -/
theorem srt_strs {xs : List Str} : SrtD (xs.map D.str) := by
  refine ⟨⟨⟨1, fun k hk => ?_⟩, fun k hk j hj => ?_, fun k hk => ?_⟩, fun d hd => ?_⟩
  · obtain ⟨d, hd, rfl⟩ := List.mem_map.mp hk
    obtain ⟨x, _, rfl⟩ := List.mem_map.mp hd
    rfl
  · obtain ⟨d, hd, rfl⟩ := List.mem_map.mp hk
    obtain ⟨x, _, rfl⟩ := List.mem_map.mp hd
    obtain ⟨e, he, rfl⟩ := List.mem_map.mp hj
    obtain ⟨y, _, rfl⟩ := List.mem_map.mp he
    simp [D.nt, LOk]
  · obtain ⟨d, hd, rfl⟩ := List.mem_map.mp hk
    obtain ⟨x, _, rfl⟩ := List.mem_map.mp hd
    simp [D.nt, NestedKey.depth]
  · obtain ⟨x, _, rfl⟩ := List.mem_map.mp hd
    rfl
theorem lok_pair {a b c d : Int} : LOk (tp (a, b)).nt (tp (c, d)).nt := by
  simp only [tp, D.nt, D.nts, LOk, LOks]
  exact ⟨fun _ => ⟨fun _ => True.intro, fun _ => True.intro⟩, fun _ => True.intro⟩
theorem srt_tps {L : List Sp2} : SrtD (L.map tp) := by
  refine ⟨⟨⟨2, fun k hk => ?_⟩, fun k hk j hj => ?_, fun k hk => ?_⟩, fun d hd => ?_⟩
  · obtain ⟨d, hd, rfl⟩ := List.mem_map.mp hk
    obtain ⟨x, _, rfl⟩ := List.mem_map.mp hd
    simp [tp, D.nt, D.nts, kindN]
  · obtain ⟨d, hd, rfl⟩ := List.mem_map.mp hk
    obtain ⟨x, _, rfl⟩ := List.mem_map.mp hd
    obtain ⟨e, he, rfl⟩ := List.mem_map.mp hj
    obtain ⟨y, _, rfl⟩ := List.mem_map.mp he
    exact lok_pair
  · obtain ⟨d, hd, rfl⟩ := List.mem_map.mp hk
    obtain ⟨x, _, rfl⟩ := List.mem_map.mp hd
    simp [tp, D.nt, D.nts, NestedKey.depth, NestedKey.depthAll]
  · obtain ⟨x, _, rfl⟩ := List.mem_map.mp hd
    simp [tp, D.srt, D.srts]
end DV

namespace DV
open PySem PySem.Spec PyProof.Rows L2
/-! ### closures of DxI .. DxK -/
def k_nxw (N : DN) (ρ : List Slot) (_ : D) : Prop := N.nx ρ
theorem k_nxw_q {N : DN} {ρ : List Slot} {d : D} : k_nxw N ρ d = N.nx ρ := rfl
def k_xno (_ : Str) (_ : Flds) : Prop := False
theorem k_xno_q {n : Str} {fs : Flds} : k_xno n fs = False := rfl
def k_xw (w : DX) (_ : List Slot) : DX := w
theorem k_xw_q {w : DX} {ρ : List Slot} : k_xw w ρ = w := rfl
theorem e_fnX {n m : Nat} {t : DSX} {ds : List D} {Q : D → Prop} {w : DX} : fnX n m t ds Q w = (ds.length = m ∧ t (k_xw w) ⟨k_non Q, Q, k_no, k_no, roL Q⟩ (ds.map Slot.v ++ List.replicate (n - m) Slot.un)) := rfl
theorem e_noX {f : DSpX} {ds : List D} {Q : D → Prop} : noX f ds Q = f ds Q k_xno := rfl
theorem e_xL {t : DS} {w : DXS} {N : DN} {ρ : List Slot} : xL t w N ρ = t N ρ := rfl
theorem e_xSeq {t u : DSX} {w : DXS} {N : DN} {ρ : List Slot} : xSeq t u w N ρ = t w { N with nx := u w N } ρ := rfl
def k_xIf (t u : DSX) (w : DXS) (N : DN) (ρ : List Slot) (b : Bool) : Prop := if b = true then t w N ρ else u w N ρ
theorem k_xIf_q {t u : DSX} {w : DXS} {N : DN} {ρ : List Slot} {b : Bool} : k_xIf t u w N ρ b = (if b = true then t w N ρ else u w N ρ) := rfl
theorem e_xIf {c : DT} {t u : DSX} {w : DXS} {N : DN} {ρ : List Slot} : xIf c t u w N ρ = c ρ (k_xIf t u w N ρ) := rfl
theorem e_xRaise0 {n : Str} {w : DXS} {N : DN} {ρ : List Slot} : xRaise0 n w N ρ = w ρ n [("word", .str n)] := rfl
def k_xR1 (n g : Str) (w : DXS) (ρ : List Slot) (d : D) : Prop := w ρ n [(g, d), ("word", .str n)]
theorem k_xR1_q {n g : Str} {w : DXS} {ρ : List Slot} {d : D} : k_xR1 n g w ρ d = w ρ n [(g, d), ("word", .str n)] := rfl
theorem e_xRaise1 {n g : Str} {t : DE} {w : DXS} {N : DN} {ρ : List Slot} : xRaise1 n g t w N ρ = t ρ (k_xR1 n g w ρ) := rfl
def k_xDrop (f : DSpX) (dd : List D) (w : DXS) (N : DN) (ρ : List Slot) (ds : List D) : Prop := f (ds ++ dd) (k_nxw N ρ) (w ρ)
theorem k_xDrop_q {f : DSpX} {dd : List D} {w : DXS} {N : DN} {ρ : List Slot} {ds : List D} : k_xDrop f dd w N ρ ds = f (ds ++ dd) (k_nxw N ρ) (w ρ) := rfl
theorem e_xDrop {f : DSpX} {dd : List D} {tr : DA} {w : DXS} {N : DN} {ρ : List Slot} : xDrop f dd tr w N ρ = tr ρ (k_xDrop f dd w N ρ) := rfl
def k_xSet (i : Nat) (f : DSpX) (dd : List D) (w : DXS) (N : DN) (ρ : List Slot) (ds : List D) : Prop := f (ds ++ dd) (k_sSet i N ρ) (w ρ)
theorem k_xSet_q {i : Nat} {f : DSpX} {dd : List D} {w : DXS} {N : DN} {ρ : List Slot} {ds : List D} : k_xSet i f dd w N ρ ds = f (ds ++ dd) (k_sSet i N ρ) (w ρ) := rfl
theorem e_xSet {i : Nat} {f : DSpX} {dd : List D} {tr : DA} {w : DXS} {N : DN} {ρ : List Slot} : xSet i f dd tr w N ρ = tr ρ (k_xSet i f dd w N ρ) := rfl
def k_xRet (f : DSpX) (dd : List D) (w : DXS) (N : DN) (ρ : List Slot) (ds : List D) : Prop := f (ds ++ dd) N.rt (w ρ)
theorem k_xRet_q {f : DSpX} {dd : List D} {w : DXS} {N : DN} {ρ : List Slot} {ds : List D} : k_xRet f dd w N ρ ds = f (ds ++ dd) N.rt (w ρ) := rfl
theorem e_xRet {f : DSpX} {dd : List D} {tr : DA} {w : DXS} {N : DN} {ρ : List Slot} : xRet f dd tr w N ρ = tr ρ (k_xRet f dd w N ρ) := rfl
theorem e_sTry {b : DSX} {hs : List Hd} {N : DN} {ρ : List Slot} : sTry b hs N ρ = b (hdW N hs) N ρ := rfl
def k_unX (i : Nat) (k : List Slot → Prop) (ρ : List Slot) : Prop := k (ρ.set i .un)
theorem k_unX_q {i : Nat} {k : List Slot → Prop} {ρ : List Slot} : k_unX i k ρ = k (ρ.set i .un) := rfl
/-- the clause that catches; one that lets by -/
theorem hdW_yes {N : DN} {n : Str} {no : List Str} {i : Nat} {ts : DSF} {r : List Hd} {ρ : List Slot} {fs : Flds} : hdW N (⟨n, no, i, ts⟩ :: r) ρ n fs = ts fs { N with nx := k_unX i N.nx, bk := k_unX i N.bk, ct := k_unX i N.ct } (ρ.set i .un) := by
  show (if n = n then _ else _) = _
  rw [if_pos rfl]
  rfl
theorem hdW_no {N : DN} {y n : Str} {no : List Str} {i : Nat} {ts : DSF} {r : List Hd} {ρ : List Slot} {fs : Flds} (h : n ≠ y) (hn : n ∈ no) : hdW N (⟨y, no, i, ts⟩ :: r) ρ n fs = hdW N r ρ n fs := by
  show (if n = y then _ else _) = _
  rw [if_neg h]
  exact propext ⟨fun z => z.2, fun z => ⟨hn, z⟩⟩
def k_fSet (j : Nat) (N : DN) (ρ : List Slot) (d : D) : Prop := N.nx (ρ.set j (.v d))
theorem k_fSet_q {j : Nat} {N : DN} {ρ : List Slot} {d : D} : k_fSet j N ρ d = N.nx (ρ.set j (.v d)) := rfl
theorem e_fSet {j : Nat} {t : DEF} {fs : Flds} {N : DN} {ρ : List Slot} : fSet j t fs N ρ = t fs ρ (k_fSet j N ρ) := rfl
theorem e_fRet {t : DEF} {fs : Flds} {N : DN} {ρ : List Slot} : fRet t fs N ρ = t fs ρ N.rt := rfl
theorem fFld_here {g : Str} {d : D} {fs : Flds} {ρ : List Slot} {Q : D → Prop} : fFld g ((g, d) :: fs) ρ Q = Q d := by
  unfold fFld
  rw [look_cons, if_pos rfl]
theorem fFld_word {g : Str} {d y : D} {ρ : List Slot} {Q : D → Prop} (h : ("word" : Str) ≠ g) : fFld "word" [(g, y), ("word", d)] ρ Q = Q d := by
  unfold fFld
  rw [look_cons, if_neg h, look_cons, if_pos rfl]
theorem e_fIs {T : Str} {b : Bool} {fs : Flds} {ρ : List Slot} {Q : D → Prop} : fIs T b fs ρ Q = Q (.bl b) := rfl
theorem e_fE {t : DE} {fs : Flds} {ρ : List Slot} {Q : D → Prop} : fE t fs ρ Q = t ρ Q := rfl
theorem e_fNil {fs : Flds} {ρ : List Slot} {Q : List D → Prop} : fNil fs ρ Q = Q [] := rfl
def k_fC1 (d : D) (Q : List D → Prop) (ds : List D) : Prop := Q (d :: ds)
theorem k_fC1_q {d : D} {Q : List D → Prop} {ds : List D} : k_fC1 d Q ds = Q (d :: ds) := rfl
def k_fC (u : DAF) (fs : Flds) (ρ : List Slot) (Q : List D → Prop) (d : D) : Prop := u fs ρ (k_fC1 d Q)
theorem k_fC_q {u : DAF} {fs : Flds} {ρ : List Slot} {Q : List D → Prop} {d : D} : k_fC u fs ρ Q d = u fs ρ (k_fC1 d Q) := rfl
theorem e_fCons {t : DEF} {u : DAF} {fs : Flds} {ρ : List Slot} {Q : List D → Prop} : fCons t u fs ρ Q = t fs ρ (k_fC u fs ρ Q) := rfl
def k_fT (Q : D → Prop) (ds : List D) : Prop := ds ≠ [] ∧ ds.length ≤ sizeLine ∧ Q (.tup ds)
theorem k_fT_q {Q : D → Prop} {ds : List D} : k_fT Q ds = (ds ≠ [] ∧ ds.length ≤ sizeLine ∧ Q (.tup ds)) := rfl
theorem e_fTup {u : DAF} {fs : Flds} {ρ : List Slot} {Q : D → Prop} : fTup u fs ρ Q = u fs ρ (k_fT Q) := rfl
end DV

namespace DV
open PySem PySem.Spec PyProof.Rows L2
local macro_rules | `(tactic| walk_at "dv") => `(tactic| simp (config := { failIfUnchanged := false, implicitDefEqProofs := false }) only [↓k_nxw_q, ↓k_xno_q, ↓k_xw_q, ↓e_fnX, ↓e_noX, ↓e_xL, ↓e_xSeq, ↓k_xIf_q, ↓e_xIf, ↓e_xRaise0, ↓k_xR1_q, ↓e_xRaise1, ↓k_xDrop_q, ↓e_xDrop, ↓k_xSet_q, ↓e_xSet, ↓k_xRet_q, ↓e_xRet, ↓e_sTry, ↓k_unX_q, ↓hdW_yes, ↓k_fSet_q, ↓e_fSet, ↓e_fRet, ↓fFld_here, ↓e_fIs, ↓e_fE, ↓e_fNil, ↓k_fC1_q, ↓k_fC_q, ↓e_fCons, ↓k_fT_q, ↓e_fTup, ↓k_zipL_q, ↓e_dZipL, ↓k_zip_q, ↓e_iZipD, ↓k_enum_q, ↓e_iEnumD, ↓k_keys_q, ↓e_iKeysD, ↓k_vals_q, ↓e_iValsD, ↓k_items_q, ↓e_iItemsD, ↓k_tru_q, ↓e_dTru, ↓truD_l, ↓truD_t, ↓truD_b, ↓truD_n, ↓k_rev_q, ↓e_sRev, ↓k_clr_q, ↓e_sClr, ↓k_ins3_q, ↓k_ins2_q, ↓k_ins_q, ↓e_sIns, ↓k_move_q, ↓e_sMove, ↓k_lc2_q, ↓e_dLc2, ↓inTD_t, ↓notBD_bb, ↓dictK_d, fgs_n, fgs_c, fg_v, fg_t, fg_u, fg_o, ↓k_rtNl_q, ↓k_sSetO_q, ↓k_sRetO_q, ↓k_nl_q, ↓k_nls_q, ↓k_nlc_q, ↓k_back_q, ↓k_lend_q, ↓k_put2_q, ↓k_put1_q, ↓k_put_q, ↓e_fnO, ↓e_sSetO, ↓e_sRetO, ↓e_dBor, ↓e_dBorO, ↓e_dBorA, ↓e_dBorT, ↓frz_0u, ↓frz_0t, ↓e_sLend, ↓ownK_o, ↓e_sPutD, ↓e_dD0, ↓inKD_d, ↓notInKD_d, ↓k_for_q, ↓e_for_n, ↓e_for_c, ↓k_sAppend1_q, ↓k_sAppend_q, ↓k_sRetOwn_q, ↓k_sPar2_q, ↓k_sPar_q, ↓k_sPar33_q, ↓k_sPar3_q, ↓k_some_q, ↓k_asI_q, ↓k_asS_q, ↓k_rng1_q, ↓k_one_q, ↓k_rng22_q, ↓k_rng21_q, ↓k_rng2_q, ↓k_two_q, ↓k_non_q, ↓k_no_q, ↓k_sSet_q, ↓k_sAsg_q, ↓k_sAsg2_q, ↓k_sIf_q, ↓k_sDrop_q, ↓k_sOwn_q, ↓k_sFor_q, ↓k_gs_q, ↓k_dOp2_q, ↓k_dOp_q, ↓k_dCh4_q, ↓k_dCh3_q, ↓k_dCh2_q, ↓k_dCh1_q, ↓k_dUn_q, ↓k_dTest_q, ↓k_dAnd_q, ↓k_dOr_q, ↓k_dNot_q, ↓k_dAndV_q, ↓k_dOrV_q, ↓k_dIf_q, ↓k_dCons2_q, ↓k_dCons_q, ↓k_dTup_q, ↓k_dLst_q, ↓k_dCall_q, ↓k_dIsi_q, ↓k_dIsi2_q, ↓k_dSl3_q, ↓k_dSl2_q, ↓k_dSl_q, ↓k_dRev_q, ↓k_s3_q, ↓k_s3a_q, ↓k_s3b_q, ↓k_s3c_q, ↓e_dSl3, ↓sl3_r2, ↓sl3_rl, ↓k_dLc_q, ↓k_dB_q, ↓chB_b, ↓tsB_b, ↓dVar_s, ↓ownL_o, ↓ownD_o, ↓roL_l, ↓e_sAppend, ↓e_sRetOwn, ↓two_2, ↓three_3, ↓e_sPar, ↓e_sPar3, ↓asI_i, ↓e_dPart, ↓asS_l, ↓asS_t, ↓e_iSeq, ↓one_1, ↓e_iRng1D, ↓e_iRng2D, ↓wipeD_n, ↓wipeD_c, ↓frz_0, ↓frz_0v, ↓frz_s, ↓e_fnD, ↓e_sSeq, ↓e_sNext, ↓e_sBreak, ↓e_sCont, ↓e_sSet, ↓e_sAsg, ↓e_sAsg2, ↓e_sIf, ↓e_sRet, ↓e_sRetN, ↓e_sDrop, ↓e_sNever, ↓e_sOwn, ↓e_sFrz, ↓e_sFor, ↓e_gN, ↓e_gT_t, ↓e_gsNil_n, ↓e_gsCons_c, ↓e_dVar_0, ↓e_dVar_0t, ↓e_dC, ↓e_dOp, ↓e_dChain, ↓e_dUn, ↓e_dTest, ↓e_dAnd, ↓e_dOr, ↓e_dNot, ↓e_dAndV, ↓e_dOrV, ↓e_dIf, ↓e_dNil, ↓e_dCons, ↓e_dTup, ↓e_dLst, ↓e_dCall, ↓e_dB, ↓e_dIsi, ↓e_dIsi2, ↓e_dSl, ↓e_dRev, ↓e_dNo, ↓e_dYes, ↓e_dLc,
  ↓addD_ii, ↓addD_tt, ↓addD_ll, ↓subD_ii, ↓mulD_ii, ↓fdivD_ii, ↓modD_ii, ↓powD_10_9, ↓powD_10_6, ↓ltA_ii, ↓leA_ii, ↓gtA_ii, ↓geA_ii, ↓ltA_t2, ↓leA_t2, ↓gtA_t2, ↓geA_t2, ↓max2A_ii, ↓min2A_ii, ↓slh4, ↓slt4', ↓max2A_c, ↓min2A_c, ↓revD_l, ↓isNon_n, ↓isNon_t, ↓isNon_l, ↓notNon_n, ↓notNon_t, ↓isBD_bb, ↓negD_i, ↓notD_b, ↓absD_i, ↓intC_i, ↓intC_b, ↓lenD_l, ↓lenD_t, ↓listD_l, ↓listD_t, ↓tupleD_l, ↓tupleD_t, ↓allD_l, ↓anyD_l, ↓ixT0, ↓ixT1, ↓ixT2, ↓ixT3, ↓ixL0, ↓ixL1, ↓ixL2, ↓ixL3, ↓slD_l,
  eqD, neD,  sl0, sl1, sl2, sl3, sl4, sl5, sl6, sl7, sl8, sl9, sl10, sl11, sl12, slt0, slt1, slt2, slt3, slt4, slt5, slt6, slt7, slt8, slt9, slt10, slt11, slt12, lay_i, lay_b, lay_n, lay_t0, lay_l0, lay_t2, lay_t4, eqb_ii, eqb_bb, eqb_ss, eqb_nn, eqb_tt, eqb_ll, eqbs_nn, eqbs_cc, eqbs_nc, eqbs_cn, tag_n, tag_c, tagS_v, tagS_u, tagS_o, tagS_t, back_n, back_c, backS_vt, backS_tt, backS_ot, backS_ut, backS_u, backS_v, backS_l, backS_d, ownS_l, ownS_d, ownS_t, ownS_i, ownS_n, noLst_l, noLst_i, noLst_b, noLst_s, noLst_n, noLst_d, noLst_t, noLsts_n, noLsts_c, nlc_l, nlc_d, nlc_i, nlc_b, nlc_t, tyOk_n, tyOk_b, tyOk_i, tyOk_s, tyOk_t, tyOk_l, isi_n, isi_b, isi_i, isi_s, isi_t, isi_l,
  List.map_cons, List.map_nil, List.cons_append, List.nil_append, List.append_nil, List.append_assoc, List.length_cons, List.length_nil, List.getElem?_cons_zero, List.getElem?_cons_succ, List.set_cons_zero, List.set_cons_succ, List.replicate, Nat.reduceAdd, Nat.reduceSub, Nat.zero_add, Nat.reduceLeDiff, Nat.reduceEqDiff,
  if_true, if_false, true_and, and_true, and_self, Bool.not_true, Bool.not_false, Bool.false_eq_true, Bool.and_true, Bool.true_and, Bool.or_false, Bool.false_or, Bool.or_true, Bool.true_or, decide_eq_true_eq, decide_true, decide_false, beq_self_eq_true, beq_iff_eq, String.reduceEq, reduceIte, reduceCtorEq])
local macro_rules | `(tactic| walk_at "dw") => `(tactic| simp (config := { failIfUnchanged := false, implicitDefEqProofs := false }) only [↓k_nxw_q, ↓k_xno_q, ↓k_xw_q, ↓e_fnX, ↓e_noX, ↓e_xL, ↓e_xSeq, ↓k_xIf_q, ↓e_xIf, ↓e_xRaise0, ↓k_xR1_q, ↓e_xRaise1, ↓k_xDrop_q, ↓e_xDrop, ↓k_xSet_q, ↓e_xSet, ↓k_xRet_q, ↓e_xRet, ↓e_sTry, ↓k_unX_q, ↓hdW_yes, ↓k_fSet_q, ↓e_fSet, ↓e_fRet, ↓fFld_here, ↓e_fIs, ↓e_fE, ↓e_fNil, ↓k_fC1_q, ↓k_fC_q, ↓e_fCons, ↓k_fT_q, ↓e_fTup, ↓k_zipL_q, ↓e_dZipL, ↓k_zip_q, ↓e_iZipD, ↓k_enum_q, ↓e_iEnumD, ↓k_keys_q, ↓e_iKeysD, ↓k_vals_q, ↓e_iValsD, ↓k_items_q, ↓e_iItemsD, ↓k_tru_q, ↓e_dTru, ↓truD_l, ↓truD_t, ↓truD_b, ↓truD_n, ↓k_rev_q, ↓e_sRev, ↓k_clr_q, ↓e_sClr, ↓k_ins3_q, ↓k_ins2_q, ↓k_ins_q, ↓e_sIns, ↓k_move_q, ↓e_sMove, ↓k_lc2_q, ↓e_dLc2, ↓inTD_t, ↓notBD_bb, ↓dictK_d, fgs_n, fgs_c, fg_v, fg_t, fg_u, fg_o, ↓k_rtNl_q, ↓k_sSetO_q, ↓k_sRetO_q, ↓k_nl_q, ↓k_nls_q, ↓k_nlc_q, ↓k_back_q, ↓k_lend_q, ↓k_put2_q, ↓k_put1_q, ↓k_put_q, ↓e_fnO, ↓e_sSetO, ↓e_sRetO, ↓e_dBor, ↓e_dBorO, ↓e_dBorA, ↓e_dBorT, ↓frz_0u, ↓frz_0t, ↓e_sLend, ↓ownK_o, ↓e_sPutD, ↓e_dD0, ↓inKD_d, ↓notInKD_d, ↓k_for_q, ↓k_sAppend1_q, ↓k_sAppend_q, ↓k_sRetOwn_q, ↓k_sPar2_q, ↓k_sPar_q, ↓k_sPar33_q, ↓k_sPar3_q, ↓k_some_q, ↓k_asI_q, ↓k_asS_q, ↓k_rng1_q, ↓k_one_q, ↓k_rng22_q, ↓k_rng21_q, ↓k_rng2_q, ↓k_two_q, ↓k_non_q, ↓k_no_q, ↓k_sSet_q, ↓k_sAsg_q, ↓k_sAsg2_q, ↓k_sIf_q, ↓k_sDrop_q, ↓k_sOwn_q, ↓k_sFor_q, ↓k_gs_q, ↓k_dOp2_q, ↓k_dOp_q, ↓k_dCh4_q, ↓k_dCh3_q, ↓k_dCh2_q, ↓k_dCh1_q, ↓k_dUn_q, ↓k_dTest_q, ↓k_dAnd_q, ↓k_dOr_q, ↓k_dNot_q, ↓k_dAndV_q, ↓k_dOrV_q, ↓k_dIf_q, ↓k_dCons2_q, ↓k_dCons_q, ↓k_dTup_q, ↓k_dLst_q, ↓k_dCall_q, ↓k_dIsi_q, ↓k_dIsi2_q, ↓k_dSl3_q, ↓k_dSl2_q, ↓k_dSl_q, ↓k_dRev_q, ↓k_s3_q, ↓k_s3a_q, ↓k_s3b_q, ↓k_s3c_q, ↓e_dSl3, ↓sl3_r2, ↓sl3_rl, ↓k_dLc_q, ↓k_dB_q, ↓chB_b, ↓tsB_b, ↓dVar_s, ↓ownL_o, ↓ownD_o, ↓roL_l, ↓e_sAppend, ↓e_sRetOwn, ↓two_2, ↓three_3, ↓e_sPar, ↓e_sPar3, ↓asI_i, ↓e_dPart, ↓asS_l, ↓asS_t, ↓e_iSeq, ↓one_1, ↓e_iRng1D, ↓e_iRng2D, ↓wipeD_n, ↓wipeD_c, ↓frz_0, ↓frz_0v, ↓frz_s, ↓e_fnD, ↓e_sSeq, ↓e_sNext, ↓e_sBreak, ↓e_sCont, ↓e_sSet, ↓e_sAsg, ↓e_sAsg2, ↓e_sIf, ↓e_sRet, ↓e_sRetN, ↓e_sDrop, ↓e_sNever, ↓e_sOwn, ↓e_sFrz, ↓e_sFor, ↓e_gN, ↓e_gT_t, ↓e_gsNil_n, ↓e_gsCons_c, ↓e_dVar_0, ↓e_dVar_0t, ↓e_dC, ↓e_dOp, ↓e_dChain, ↓e_dUn, ↓e_dTest, ↓e_dAnd, ↓e_dOr, ↓e_dNot, ↓e_dAndV, ↓e_dOrV, ↓e_dIf, ↓e_dNil, ↓e_dCons, ↓e_dTup, ↓e_dLst, ↓e_dCall, ↓e_dB, ↓e_dIsi, ↓e_dIsi2, ↓e_dSl, ↓e_dRev, ↓e_dNo, ↓e_dYes, ↓e_dLc,
  ↓addD_ii, ↓addD_tt, ↓addD_ll, ↓subD_ii, ↓mulD_ii, ↓fdivD_ii, ↓modD_ii, ↓powD_10_9, ↓powD_10_6, ↓ltA_ii, ↓leA_ii, ↓gtA_ii, ↓geA_ii, ↓ltA_t2, ↓leA_t2, ↓gtA_t2, ↓geA_t2, ↓max2A_ii, ↓min2A_ii, ↓slh4, ↓slt4', ↓max2A_c, ↓min2A_c, ↓revD_l, ↓isNon_n, ↓isNon_t, ↓isNon_l, ↓notNon_n, ↓notNon_t, ↓isBD_bb, ↓negD_i, ↓notD_b, ↓absD_i, ↓intC_i, ↓intC_b, ↓lenD_l, ↓lenD_t, ↓listD_l, ↓listD_t, ↓tupleD_l, ↓tupleD_t, ↓allD_l, ↓anyD_l, ↓ixT0, ↓ixT1, ↓ixT2, ↓ixT3, ↓ixL0, ↓ixL1, ↓ixL2, ↓ixL3, ↓slD_l,
  eqD, neD,  sl0, sl1, sl2, sl3, sl4, sl5, sl6, sl7, sl8, sl9, sl10, sl11, sl12, slt0, slt1, slt2, slt3, slt4, slt5, slt6, slt7, slt8, slt9, slt10, slt11, slt12, lay_i, lay_b, lay_n, lay_t0, lay_l0, lay_t2, lay_t4, eqb_ii, eqb_bb, eqb_ss, eqb_nn, eqb_tt, eqb_ll, eqbs_nn, eqbs_cc, eqbs_nc, eqbs_cn, tag_n, tag_c, tagS_v, tagS_u, tagS_o, tagS_t, back_n, back_c, backS_vt, backS_tt, backS_ot, backS_ut, backS_u, backS_v, backS_l, backS_d, ownS_l, ownS_d, ownS_t, ownS_i, ownS_n, noLst_l, noLst_i, noLst_b, noLst_s, noLst_n, noLst_d, noLst_t, noLsts_n, noLsts_c, nlc_l, nlc_d, nlc_i, nlc_b, nlc_t, tyOk_n, tyOk_b, tyOk_i, tyOk_s, tyOk_t, tyOk_l, isi_n, isi_b, isi_i, isi_s, isi_t, isi_l,
  List.map_cons, List.map_nil, List.cons_append, List.nil_append, List.append_nil, List.append_assoc, List.length_cons, List.length_nil, List.getElem?_cons_zero, List.getElem?_cons_succ, List.set_cons_zero, List.set_cons_succ, List.replicate, Nat.reduceAdd, Nat.reduceSub, Nat.zero_add, Nat.reduceLeDiff, Nat.reduceEqDiff,
  if_true, if_false, true_and, and_true, and_self, Bool.not_true, Bool.not_false, Bool.false_eq_true, Bool.and_true, Bool.true_and, Bool.or_false, Bool.false_or, Bool.or_true, Bool.true_or, decide_eq_true_eq, decide_true, decide_false, beq_self_eq_true, beq_iff_eq, String.reduceEq, reduceIte, reduceCtorEq])
theorem lowestX_ok {Q : D → Prop} {w : DX} {o u : Int} (hb : u.natAbs < 1461501637330902918203684832716283019655932542976) (h0 : u = 0 → w "BadPart" [("word", .str "BadPart")]) (h : u ≠ 0 → Q (lowD o u)) : c_lowestX [.int o, .int u] Q w := by
  unfold c_lowestX
  walk_at "dv"
  by_cases hu : u = 0
  · rw [if_pos hu]
    exact h0 hu
  · rw [if_neg hu]
    have h := h hu
    have hg := gcd_small (o := o) hu
    refine greatest_ok ?_
    walk_at "dv"
    unfold lowD at h
    by_cases hn : u < 0
    · rw [if_pos hn] at h ⊢
      walk_at "dv"
      exact ⟨divOk (by omega) (by omega), divOk (by omega) (by omega), h⟩
    · rw [if_neg hn] at h ⊢
      walk_at "dv"
      exact ⟨divOk (by omega) (by omega), divOk (by omega) (by omega), h⟩
theorem law_made_ok {Q : D → Prop} {o u : Int} (hb : u.natAbs < 1461501637330902918203684832716283019655932542976) (h0 : u = 0 → Q (.tup [.str "BadPart", .bl true, .bl true, .bl false])) (h : u ≠ 0 → Q (lowD o u)) : c_law_made [.int o, .int u] Q := by
  unfold c_law_made
  walk_at "dv"
  refine lowestX_ok hb (fun z => ?_) (fun z => ?_)
  · have h0 := h0 z
    walk_at "dv"
    exact ⟨by simp, h0⟩
  · have h := h z
    walk_at "dv"
    exact h
theorem plain_k01 : c_law_k01 [.scr] fun d => d = .bl true := by
  unfold c_law_k01
  walk_at "dv"
  refine ⟨rfl, ⟨by decide, by decide⟩, ?_⟩
  refine forD_inv (fun ρ => ∃ s2 s3 s4 s5, ρ = [.v .scr, .v .bag, s2, s3, s4, s5]) _ _ ⟨_, _, _, _, rfl⟩ ?_ ?_
  · rintro d hd ρ M ⟨s2, s3, s4, s5, rfl⟩ hnx hct hrt hbk
    walk_at "dv"
    refine law_over_ok fun o o0 o1 => ?_
    walk_at "dv"
    refine law_over_ok fun u u0 u1 => ?_
    walk_at "dv"
    refine pull_ok (by omega) (by omega) fun r r0 r1 => ?_
    walk_at "dv"
    have hm : MulOk u (if 0 < r then 1 else 0) := by
      split
      · exact mulOk (by omega)
      · exact mulOk (by omega)
    refine ⟨hm, ?_⟩
    obtain ⟨v, hv, v0⟩ : ∃ v : Int, u * (if 0 < r then 1 else 0) = v ∧ v.natAbs < 1000000000 := by
      refine ⟨_, rfl, ?_⟩
      split
      · rw [Int.mul_one]; omega
      · rw [Int.mul_zero]; decide
    rw [hv]
    have last : ∀ Q : D → Prop, Q (.tup [.int o, .int 1]) → c_lowestX [.int o, .int 1] Q k_xno := fun Q q => by
      refine lowestX_ok (by decide) (fun z => absurd z (by decide)) fun _ => ?_
      have e : lowD o 1 = .tup [.int o, .int 1] := by
        have g : Int.gcd o 1 = 1 := Int.gcd_one_right ..
        unfold lowD
        rw [g]
        simp
      rw [e]
      exact q
    by_cases hz : v = 0
    · subst hz
      walk_at "dv"
      refine law_made_ok (by decide) (fun _ => ?_) (fun z => absurd rfl z)
      walk_at "dv"
      refine like_ok 8 _ _ ⟨by simp, fun d hd => ?_⟩ ?_
      · simp only [List.mem_cons, List.not_mem_nil, or_false] at hd
        rcases hd with rfl | rfl | rfl | rfl
        · exact show PyData.strOk _ = true by decide +kernel
        all_goals trivial
      walk_at "dv"
      refine last _ ?_
      walk_at "dv"
      refine like_ok 8 _ _ (lk_two lk_int lk_int) ?_
      walk_at "dv"
      exact hnx _ ⟨_, _, _, _, rfl⟩
    · have hb : (v == 0) = false := by simpa using hz
      rw [hb]
      walk_at "dv"
      refine law_low_ok hz (by omega) ?_
      walk_at "dv"
      refine law_made_ok (by omega) (fun z => absurd z hz) (fun _ => ?_)
      walk_at "dv"
      refine like_ok 8 _ _ lk_low ?_
      walk_at "dv"
      refine last _ ?_
      walk_at "dv"
      refine like_ok 8 _ _ (lk_two lk_int lk_int) ?_
      walk_at "dv"
      exact hnx _ ⟨_, _, _, _, rfl⟩
  · rintro ρ ⟨s2, s3, s4, s5, rfl⟩
    walk_at "dv"
end DV

open PySem PySem.W PySem.Calls PyProof.Rows
set_option maxRecDepth 100000 in
set_option maxHeartbeats 0 in
theorem PySem.Challenge.cw_dotmoor_k01_parts_in_lowest_terms_holds : PySem.Challenge.rw_dotmoor_k01_parts_in_lowest_terms.Holds := by
  w_on; o_law
  refine HandSHeadRun.head_any (r := OpenLaw.row PySem.Challenge.rw_dotmoor_k01_parts_in_lowest_terms) (q := view (OpenLaw.row PySem.Challenge.rw_dotmoor_k01_parts_in_lowest_terms).prog [15]) (H := K01.hk) (ob := K01.ob) (M := 1500) (loose := ["DotError", "BadPart", "greatest", "lowest", "_law_bag", "_law_pull", "_law_of", "_law_like", "_law_common", "_law_low", "_law_over", "_law_made"]) (d := HandSHeadRun.topDef (OpenLaw.row PySem.Challenge.rw_dotmoor_k01_parts_in_lowest_terms).prog 15) (kwd := []) K01.ob_eq
    (by kernel_rfl) (fun s => by kernel_rfl) K01.run (by kernel_rfl) (by kernel_rfl) (by kernel_rfl) (by rfl) (by first | assumption | decide +kernel) (by decide +kernel) ⟨rfl, rfl, rfl, rfl, rfl, by decide +kernel⟩ ?hw ?hc
  case hw => w_witness2
  case hc =>
    refine L2.walk_ofE (l := PySem.Challenge.rw_dotmoor_k01_parts_in_lowest_terms) (n := 63) (k := 9) (x := "_law_script") (CX := L2.CX0) rfl (by decide) (by kernel_rfl) ⟨rfl, by decide, by decide⟩ ?F (fun _ _ _ _ z => z)
    intro w mg fa h Y G hmg0
    obtain ⟨K, KX, c⟩ := Y
    have hmg : mg ("law" : PySem.Str) = some (.ref fa) := by
      have e : (HandSHeadRun.topDef (OpenLaw.row PySem.Challenge.rw_dotmoor_k01_parts_in_lowest_terms).prog 15).name = ("law" : PySem.Str) := by kernel_rfl
      rw [← e]
      exact hmg0
    obtain ⟨fd, hb, hF⟩ := K01.facts (P := (PySem.Challenge.rw_dotmoor_k01_parts_in_lowest_terms).prog) (w := w) KX G hmg c
    exact ⟨K, fd, DV.spD K DV.c_law_k01, KX, hb, fun H a ns hl _ hS => DV.law_sp DV.plain_k01 hl hS, hF⟩