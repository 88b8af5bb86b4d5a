import PyProof.Rows.All
import Wide.All
import OpenK.AllK
import Wide.FinOn
import HandS.ForMost
import HandS.Wide
import HandS.IsInst
import HandS.Deep
import HandS.EndBits
import KE.KDictKeyed
import HandS.Lambda
import HandS.Style
import HandS.Defaults
import HandS.Flow
import KE.DataMinMax
import KE.DataCmp
import KE.SortData
import KE.KDictPairs
import PyProof.ConsumeS
import PyProof.SeqWrite
import PyProof.SumAny
import HandS.SortOrd
import KE.LtData
import KE.LtSeq
import KE.KSortTup
import PyProof.TupleOfSeq
import KE.KDictSum
import KE.KDictCopyH
import HandS.Keys
import HandS.Iter
import KE.KDictZip
import HandS.More
import HandS.Exc
import HandS.ExcInit
import HandS.ExcField
import HandS.ExcIs
import HandS.ExcOwn
import HandS.CallSlots
import HandS.WordsExc
import HandS.ClsMeth
import HandS.HeadHook1
import HandS.HeadHook4
import KE.KExcIs
import HandS.TryMany
import KE.KEqDict
import HandS.SetBool
import HandS.TupSets
import KE.SortKeyHeap
import KE.KSortKey
import PyProof.Rows.CallKwBuiltin
import HandS.DictComp
import HandS.EndTab
import HandS.NestedK
import HandS.ListItems
import KE.KEqNest
import KE.GoesMore
import PyProof.EnumMake
import PyProof.Draws
import PyProof.NeKinds
import KE.KDictDisplayH
import KE.KDictItemsList
import KE.KExcInit
import HandS.SortKw
import PyProof.P3Eq
import PyProof.StrOps2
import KE.KStateDown
import HandS.Head0
import HandS.Head1
import HandS.Head2
import HandS.HeadEnd
import HandS.HeadHook2
import KE.KRevSl
import PySem.Challenge.RW_dotmoor_k11_what_makes_a_square_hot
set_option Elab.async false
set_option linter.all false
set_option maxRecDepth 100000
set_option maxHeartbeats 4000000
/-! Data over the hand layer: what a def does, told of plain data (no heap). -/
namespace DV
open PySem PySem.Spec PyProof.Rows L2

abbrev St := L2.St
/-- plain data; bag: the law's own draws; scr: the law's script -/
inductive D where
  | non | bl (b : Bool) | int (i : Int) | str (x : Str)
  | tup (xs : List D) | lst (xs : List D) | dic (kvs : List (D × D)) | bag | scr

def Mark : HO := .tbl #[]
def Mark2 : HO := .tbl #[.none]
/-- a list of ints of which nothing more is told -/
def Scp (H : Hp) (a : Addr) : Prop := ∃ ns : List Int, H a = some (.lst (ns.map V.int)) ∧ ns.length ≤ 1000
/-- the bag at b: the script's copy stands in F, marked -/
def Bag (F H : Hp) (b : Addr) : Prop := ∃ (a : Addr) (p : Nat) (big salt : Int), F a = some Mark2 ∧ H b = some (.lst [.ref a, .int p, .int big, .int salt])
/-- a table of code objects of the name q -/
def Mark3 (q : Str) : HO := .tbl #[.none, .str q 0]
def nameV : Option Value → Str
  | some (Value.str q _) => q
  | _ => ""
def nameQ (ps : Array Value) : Str := nameV ps[1]?
def TabQ (F H : Hp) (a : Addr) (q : Str) : Prop := ∃ ps : Array Value, H a = some (.tbl ps) ∧ TriplesOk ps.toList ∧ ∀ (pos : Pos) (cv : Value), codeAmong pos ps.toList = some cv → ∃ c, cv = .ref c ∧ F c = some (LamX.CodeO c q)
def Stands (F H : Hp) (a : Addr) : HO → Prop
  | .tbl ps => if ps.size = 0 then Bag F H a else if ps.size = 1 then Scp H a else TabQ F H a (nameQ ps)
  | o => H a = some o
/-- what is frozen stands in the heap -/
def Sub (F H : Hp) : Prop := ∀ a o, F a = some o → Stands F H a o
theorem Stands.bag {F H : Hp} {a : Addr} (h : Stands F H a Mark) : Bag F H a := by
  have h' : (if (#[] : Array Value).size = 0 then Bag F H a else if (#[] : Array Value).size = 1 then Scp H a else TabQ F H a (nameQ #[])) := h
  rwa [if_pos (show (#[] : Array Value).size = 0 from rfl)] at h'
theorem Stands.scp {F H : Hp} {a : Addr} (h : Stands F H a Mark2) : Scp H a := by
  have h' : (if (#[Value.none] : Array Value).size = 0 then Bag F H a else if (#[Value.none] : Array Value).size = 1 then Scp H a else TabQ F H a (nameQ #[Value.none])) := h
  rwa [if_neg (by decide), if_pos (by decide)] at h'
theorem Stands.ofBag {F H : Hp} {a : Addr} (h : Bag F H a) : Stands F H a Mark := by
  show (if (#[] : Array Value).size = 0 then Bag F H a else if (#[] : Array Value).size = 1 then Scp H a else TabQ F H a (nameQ #[]))
  rwa [if_pos (show (#[] : Array Value).size = 0 from rfl)]
theorem Stands.ofScp {F H : Hp} {a : Addr} (h : Scp H a) : Stands F H a Mark2 := by
  show (if (#[Value.none] : Array Value).size = 0 then Bag F H a else if (#[Value.none] : Array Value).size = 1 then Scp H a else TabQ F H a (nameQ #[Value.none]))
  rwa [if_neg (by decide), if_pos (by decide)]
theorem Stands.there {F H : Hp} {a : Addr} {o : HO} (h : Stands F H a o) : ∃ u, H a = some u := by
  cases o with
  | tbl ps =>
    have h' : (if ps.size = 0 then Bag F H a else if ps.size = 1 then Scp H a else TabQ F H a (nameQ ps)) := h
    split at h'
    · obtain ⟨_, _, _, _, _, e⟩ := h'
      exact ⟨_, e⟩
    · split at h'
      · obtain ⟨_, e, _⟩ := h'
        exact ⟨_, e⟩
      · obtain ⟨_, e, _⟩ := h'
        exact ⟨_, e⟩
  | _ => exact ⟨_, h⟩
theorem Sub.none {F H : Hp} (s : Sub F H) {p : Addr} (h : H p = none) : F p = none := by
  cases e : F p with
  | none => rfl
  | some o =>
    obtain ⟨u, q⟩ := (s p o e).there
    rw [h] at q; cases q
/-- marks and code objects -/
def Lasting (b : Addr) (o : HO) : Prop := o = Mark2 ∨ ∃ q, o = LamX.CodeO b q
/-- the marks of the one stand in the other -/
theorem Stands.monoM {F F' H H' : Hp} {a : Addr} {o : HO} (h : Stands F H a o) (m : ∀ b o, Lasting b o → F b = some o → F' b = some o) (k : ∀ u, H a = some u → H' a = some u) : Stands F' H' a o := by
  cases o with
  | tbl ps =>
    have h' : (if ps.size = 0 then Bag F H a else if ps.size = 1 then Scp H a else TabQ F H a (nameQ ps)) := h
    show (if ps.size = 0 then Bag F' H' a else if ps.size = 1 then Scp H' a else TabQ F' H' a (nameQ ps))
    split at h'
    · rename_i z
      rw [if_pos z]
      obtain ⟨c, p, big, salt, e, e2⟩ := h'
      exact ⟨c, p, big, salt, m _ _ (.inl rfl) e, k _ e2⟩
    · rename_i z
      rw [if_neg z]
      split at h'
      · rename_i z
        rw [if_pos z]
        obtain ⟨ns, e, l⟩ := h'
        exact ⟨ns, k _ e, l⟩
      · rename_i z
        rw [if_neg z]
        obtain ⟨ps', e, t, h3⟩ := h'
        refine ⟨ps', k _ e, t, fun pos cv hc => ?_⟩
        obtain ⟨c, e1, e2⟩ := h3 pos cv hc
        exact ⟨c, e1, m _ _ (.inr ⟨_, rfl⟩) e2⟩
  | _ => exact k _ h
theorem Stands.mono {F F' H H' : Hp} {a : Addr} {o : HO} (h : Stands F H a o) (m : Same F F') (k : ∀ u, H a = some u → H' a = some u) : Stands F' H' a o := h.monoM (fun b o _ e => m b o e) k
theorem Sub.lst {F H : Hp} (s : Sub F H) {a : Addr} {xs : List V} (h : F a = some (.lst xs)) : H a = some (.lst xs) := s a _ h
theorem Sub.tup {F H : Hp} (s : Sub F H) {a : Addr} {xs : List V} (h : F a = some (.tup xs)) : H a = some (.tup xs) := s a _ h
theorem Sub.frz {F H : Hp} (s : Sub F H) {a : Addr} {o : Obj} {u : HO} (h : F a = some (.frz o u)) : H a = some (.frz o u) := s a _ h
theorem Sub.seqT {K : PySem.W.Frag} {F H : Hp} (s : Sub F H) {a : Addr} {xs : List V} (h : SqT K F a xs) : SqT K H a xs := by
  rcases h with (h | ⟨o, h⟩) | h
  · exact .inl (.inl (s.tup h))
  · exact .inl (.inr ⟨o, s.frz h⟩)
  · exact .inr h
theorem Sub.seqL {K : PySem.W.Frag} {F H : Hp} (s : Sub F H) {a : Addr} {xs : List V} (h : SqL K F a xs) : SqL K H a xs := by
  rcases h with (h | ⟨o, h⟩) | h
  · exact .inl (.inl (s.lst h))
  · exact .inl (.inr ⟨o, s.frz h⟩)
  · exact .inr h
structure Ext (F H F' H' : Hp) : Prop where
  mono : Same F F'
  keep : ∀ a o, F a = none → H a = some o → H' a = some o ∧ F' a = none
  sub : Sub F' H'
theorem Ext.refl {F H : Hp} (s : Sub F H) : Ext F H F H := ⟨Same.refl F, fun _ _ h e => ⟨e, h⟩, s⟩
theorem Ext.trans {F H F1 H1 F2 H2 : Hp} (a : Ext F H F1 H1) (b : Ext F1 H1 F2 H2) : Ext F H F2 H2 :=
  ⟨a.mono.trans b.mono, fun c o h e => let ⟨e1, h1⟩ := a.keep c o h e; b.keep c o h1 e1, b.sub⟩
/-- a new frozen object -/
theorem Ext.new {F H : Hp} (s : Sub F H) {p : Addr} {o : HO} (h : H p = none) (ho : ∀ ps, o ≠ .tbl ps) : Ext F H (upd F p o) (upd H p o) := by
  have hF := s.none h
  refine ⟨fun b x e => by rw [upd_ne (ne_of_none e hF)]; exact e, fun a x e q => ?_, fun b x e => ?_⟩
  · have : a ≠ p := ne_of_none q h
    rw [upd_ne this, upd_ne this]; exact ⟨q, e⟩
  · by_cases hb : b = p
    · subst hb
      rw [upd_same] at e; cases e
      cases o with
      | tbl ps => exact absurd rfl (ho ps)
      | _ => exact upd_same
    · rw [upd_ne hb] at e
      exact (s b x e).mono (fun c y q => by rw [upd_ne (ne_of_none q hF)]; exact q) fun u q => by rw [upd_ne hb]; exact q
theorem Ext.newL {F H : Hp} (s : Sub F H) {p : Addr} {xs : List V} (h : H p = none) : Ext F H (upd F p (.lst xs)) (upd H p (.lst xs)) := .new s h (fun _ z => nomatch z)
theorem Ext.newT {F H : Hp} (s : Sub F H) {p : Addr} {xs : List V} (h : H p = none) : Ext F H (upd F p (.tup xs)) (upd H p (.tup xs)) := .new s h (fun _ z => nomatch z)
/-- an object that is not frozen is laid or written -/
theorem Ext.own {F H : Hp} (s : Sub F H) {p : Addr} {o : HO} (h : F p = none) : Sub F (upd H p o) := fun b x e =>
  (s b x e).mono (Same.refl F) fun u q => by rw [upd_ne (ne_of_none e h)]; exact q
theorem Ext.newO {F H : Hp} (s : Sub F H) {p : Addr} {o : HO} (h : H p = none) : Ext F H F (upd H p o) :=
  ⟨Same.refl F, fun a x e q => by rw [upd_ne (ne_of_none q h)]; exact ⟨q, e⟩, Ext.own s (s.none h)⟩

/-- what a value is, as data -/
def keyD : Key → D
  | .inl i => .int i
  | .inr x => .str x
/-! keys that are tuples of numbers, nested -/
mutual
def D.nk : D → NestedKey
  | .int i => .num i
  | .tup ds => .tup (D.nks ds)
  | _ => .none
def D.nks : List D → List NestedKey
  | [] => []
  | d :: ds => D.nk d :: D.nks ds
end
mutual
def D.kin : D → Bool
  | .int _ => true
  | .tup ds => D.kins ds
  | _ => false
def D.kins : List D → Bool
  | [] => true
  | d :: ds => D.kin d && D.kins ds
end
/-- a tuple of numbers, nested at most eight deep -/
def D.kok : D → Bool
  | .tup ds => D.kins ds && decide ((NestedKey.tup (D.nks ds)).depth ≤ 8)
  | _ => false
mutual
/-- the hash of a key without texts -/
def hN : NestedKey → Int
  | .none => reduceHash 0xFCA86420
  | .num i => hashInt i
  | .text _ => 0
  | .tup ks => reduceHash (Builtin.Tuple.tupleHashOf (hNs ks))
def hNs : List NestedKey → List Int
  | [] => []
  | k :: ks => hN k :: hNs ks
end
mutual
theorem hN_eq {w : World} : ∀ {d : D}, d.kin = true → hN d.nk = d.nk.hash w
  | .int i, _ => by simp only [D.nk, hN, NestedKey.hash]
  | .tup ds, h => by
    simp only [D.kin] at h
    simp only [D.nk, hN, NestedKey.hash]
    rw [hNs_eq h]
  | .non, h => by simp [D.kin] at h
  | .bl _, h => by simp [D.kin] at h
  | .str _, h => by simp [D.kin] at h
  | .lst _, h => by simp [D.kin] at h
  | .dic _, h => by simp [D.kin] at h
  | .bag, h => by simp [D.kin] at h
  | .scr, h => by simp [D.kin] at h
theorem hNs_eq {w : World} : ∀ {ds : List D}, D.kins ds = true → hNs (D.nks ds) = NestedKey.hashes w (D.nks ds)
  | [], _ => by simp only [D.nks, hNs, NestedKey.hashes]
  | d :: ds, h => by
    simp only [D.kins, Bool.and_eq_true] at h
    simp only [D.nks, hNs, NestedKey.hashes]
    rw [hN_eq h.1, hNs_eq h.2]
end
theorem kok_kin {d : D} (h : d.kok = true) : d.kin = true := by
  cases d <;> first | (simp [D.kok] at h; done) | skip
  simp only [D.kok, Bool.and_eq_true] at h
  simp only [D.kin]
  exact h.1
theorem kok_depth {d : D} (h : d.kok = true) : d.nk.depth ≤ 8 := by
  cases d <;> first | (simp [D.kok] at h; done) | skip
  simp only [D.kok, Bool.and_eq_true, decide_eq_true_eq] at h
  simp only [D.nk]
  exact h.2
/-- a dict whose keys are such tuples: for each entry the key, its object, the value -/
def R3 (r : NestedKey × Addr × V) (x : NestedKey × Addr × Value) : Prop := r.1 = x.1 ∧ r.2.1 = x.2.1 ∧ RelV r.2.2 x.2.2
def DkO (a : Addr) (rows : List (NestedKey × Addr × V)) : HO := .ext fun h => rows.length ≤ sizeLine ∧ (a == sysModules) = false ∧ (rows.map (·.1)).Nodup ∧
  ∃ (xs : List (NestedKey × Addr × Value)) (o : Obj) (es : Array DictEntry) (ep : Nat), Paired R3 rows xs ∧ h.get? a = some o ∧ o.ExactDict ∧ o.data = .dict es ep ∧ es.toList = xs.map fun x => (⟨hN x.1, .ref x.2.1, x.2.2⟩ : DictEntry)
mutual
inductive Rp (K : PySem.W.Frag) (F : Hp) : V → D → Prop
  | non : Rp K F .non .non
  | bl (b : Bool) : Rp K F (.bl b) (.bl b)
  | int (i : Int) : Rp K F (.int i) (.int i)
  | str (x : Str) : Rp K F (.str x) (.str x)
  | tup {a : Addr} {xs : List V} {ds : List D} : SqT K F a xs → RpA K F xs ds → Rp K F (.ref a) (.tup ds)
  | lst {a : Addr} {xs : List V} {ds : List D} : F a = some (.lst xs) → RpA K F xs ds → Rp K F (.ref a) (.lst ds)
  | dic {a : Addr} {o : Obj} {kvs : List (Key × V)} {ds : List (D × D)} : F a = some (.frz o (.dK kvs)) → RpA K F (kvs.map (·.2)) (ds.map (·.2)) → ds.map (·.1) = kvs.map (fun p => keyD p.1) → Rp K F (.ref a) (.dic ds)
  | dicT {a : Addr} {o : Obj} {rows : List (NestedKey × Addr × V)} {ds : List (D × D)} : F a = some (.frz o (DkO a rows)) → ds ≠ [] → rows.map (·.1) = ds.map (fun p => p.1.nk) → (∀ p ∈ ds, p.1.kok = true) → RpA K F (rows.map fun r => V.ref r.2.1) (ds.map (·.1)) → RpA K F (rows.map (·.2.2)) (ds.map (·.2)) → Rp K F (.ref a) (.dic ds)
  | bag {a : Addr} : F a = some Mark → Rp K F (.ref a) .bag
  | scr {a : Addr} {ns : List Int} : SqL K F a (ns.map V.int) → ns.length ≤ 63 → Rp K F (.ref a) .scr
inductive RpA (K : PySem.W.Frag) (F : Hp) : List V → List D → Prop
  | nil : RpA K F [] []
  | cons {v : V} {vs : List V} {d : D} {ds : List D} : Rp K F v d → RpA K F vs ds → RpA K F (v :: vs) (d :: ds)
end
theorem SqT.same {K : PySem.W.Frag} {F F' : Hp} (m : Same F F') {a : Addr} {xs : List V} (h : SqT K F a xs) : SqT K F' a xs := by
  rcases h with (h | ⟨o, h⟩) | h
  · exact .inl (.inl (m _ _ h))
  · exact .inl (.inr ⟨o, m _ _ h⟩)
  · exact .inr h
mutual
theorem Rp.mono {K : PySem.W.Frag} {F F' : Hp} (m : Same F F') : ∀ {v : V} {d : D}, Rp K F v d → Rp K F' v d
  | _, _, .non => .non
  | _, _, .bl b => .bl b
  | _, _, .int b => .int b
  | _, _, .str b => .str b
  | _, _, .tup h r => .tup (SqT.same m h) (RpA.mono m r)
  | _, _, .lst h r => .lst (m _ _ h) (RpA.mono m r)
  | _, _, .dic h r k => .dic (m _ _ h) (RpA.mono m r) k
  | _, _, .dicT h k0 k1 k2 r1 r2 => .dicT (m _ _ h) k0 k1 k2 (RpA.mono m r1) (RpA.mono m r2)
  | _, _, .bag h => .bag (m _ _ h)
  | _, _, .scr h l => .scr (Same.seq m h) l
theorem RpA.mono {K : PySem.W.Frag} {F F' : Hp} (m : Same F F') : ∀ {v : List V} {d : List D}, RpA K F v d → RpA K F' v d
  | _, _, .nil => .nil
  | _, _, .cons h r => .cons (Rp.mono m h) (RpA.mono m r)
end
theorem RpA.length {K : PySem.W.Frag} {F : Hp} : ∀ {v : List V} {d : List D}, RpA K F v d → v.length = d.length
  | _, _, .nil => rfl
  | _, _, .cons _ r => congrArg (· + 1) (RpA.length r)
theorem RpA.get {K : PySem.W.Frag} {F : Hp} : ∀ {vs : List V} {ds : List D} {i : Nat} {d : D}, RpA K F vs ds → ds[i]? = some d → ∃ v, vs[i]? = some v ∧ Rp K F v d
  | _, _, _, _, .nil, e => by simp at e
  | _, _, 0, d, .cons h _, e => by simp at e; subst e; exact ⟨_, rfl, h⟩
  | _, _, i + 1, d, .cons _ r, e => by
    obtain ⟨v, e1, h⟩ := RpA.get (i := i) (d := d) r (by simpa using e)
    exact ⟨v, by simpa using e1, h⟩
theorem RpA.append {K : PySem.W.Frag} {F : Hp} : ∀ {vs ws : List V} {ds es : List D}, RpA K F vs ds → RpA K F ws es → RpA K F (vs ++ ws) (ds ++ es)
  | _, _, _, _, .nil, s => s
  | _, _, _, _, .cons h r, s => .cons h (RpA.append r s)
theorem RpA.take {K : PySem.W.Frag} {F : Hp} : ∀ {vs : List V} {ds : List D} (n : Nat), RpA K F vs ds → RpA K F (vs.take n) (ds.take n)
  | _, _, 0, _ => .nil
  | _, _, _ + 1, .nil => .nil
  | _, _, n + 1, .cons h r => .cons h (RpA.take n r)
theorem RpA.drop {K : PySem.W.Frag} {F : Hp} : ∀ {vs : List V} {ds : List D} (n : Nat), RpA K F vs ds → RpA K F (vs.drop n) (ds.drop n)
  | _, _, 0, r => r
  | _, _, _ + 1, .nil => .nil
  | _, _, n + 1, .cons _ r => RpA.drop n r
/-- a slot: nothing is known; frozen data; data of which it holds the only reference -/
inductive Slot where
  | un | v (d : D) | own (d : D)
  /-- frozen data, held by this very value -/
  | tg (x : V) (d : D)
  /-- tables of code objects, of these names -/
  | tb (T : List (Addr × Str))
/-- the tables T are marked -/
def TabF (T : List (Addr × Str)) (F : Hp) : Prop := ∀ p ∈ T, F p.1 = some (Mark3 p.2)
theorem TabF.mono {T : List (Addr × Str)} {F F' : Hp} (h : TabF T F) (m : Same F F') : TabF T F' := fun p hp => m _ _ (h p hp)
def OwnAt (K : PySem.W.Frag) (F H : Hp) (p : Addr) : D → Prop
  | .lst ds => ∃ xs, H p = some (.lst xs) ∧ RpA K F xs ds
  | .dic kvs => (∃ ks : List (Key × V), H p = some (.dK ks) ∧ RpA K F (ks.map (·.2)) (kvs.map (·.2)) ∧ kvs.map (·.1) = ks.map (fun q => keyD q.1)) ∨
    (∃ rows, H p = some (DkO p rows) ∧ kvs ≠ [] ∧ rows.map (·.1) = kvs.map (fun q => q.1.nk) ∧ (∀ q ∈ kvs, q.1.kok = true) ∧ RpA K F (rows.map fun r => V.ref r.2.1) (kvs.map (·.1)) ∧ RpA K F (rows.map (·.2.2)) (kvs.map (·.2)))
  | _ => False
def SlotOk (K : PySem.W.Frag) (F H : Hp) (x : Option V) : Slot → Prop
  | .un => True
  | .v d => ∃ v, x = some v ∧ Rp K F v d
  | .own d => ∃ p, x = some (.ref p) ∧ F p = none ∧ OwnAt K F H p d
  | .tg u d => x = some u ∧ Rp K F u d
  | .tb T => TabF T F
structure EnvOk (K : PySem.W.Frag) (F H : Hp) (σ : St) (ρ : List Slot) : Prop where
  len : σ.length = ρ.length
  at_ : ∀ (i : Nat) s, ρ[i]? = some s → ∃ x, σ[i]? = some x ∧ SlotOk K F H x s
  sep : ∀ (i j : Nat) p d e, i ≠ j → σ[i]? = some (some (.ref p)) → ρ[i]? = some (.own d) → σ[j]? = some (some (.ref p)) → ρ[j]? = some (.own e) → False
theorem OwnAt.mono {K : PySem.W.Frag} {F F' H H' : Hp} (m : Same F F') {p : Addr} (k : ∀ u, H p = some u → H' p = some u) : ∀ {d : D}, OwnAt K F H p d → OwnAt K F' H' p d
  | .lst ds, ⟨xs, e, r⟩ => ⟨xs, k _ e, r.mono m⟩
  | .dic kvs, .inl ⟨ks, e, r, q⟩ => .inl ⟨ks, k _ e, r.mono m, q⟩
  | .dic kvs, .inr ⟨rows, e, q0, q1, q2, r1, r2⟩ => .inr ⟨rows, k _ e, q0, q1, q2, r1.mono m, r2.mono m⟩
theorem OwnAt.there {K : PySem.W.Frag} {F H : Hp} {p : Addr} : ∀ {d : D}, OwnAt K F H p d → ∃ u, H p = some u
  | .lst ds, ⟨xs, e, r⟩ => ⟨_, e⟩
  | .dic kvs, .inl ⟨ks, e, r, q⟩ => ⟨_, e⟩
  | .dic kvs, .inr ⟨rows, e, _⟩ => ⟨_, e⟩
theorem SlotOk.mono {K : PySem.W.Frag} {F F' H H' : Hp} (x : Ext F H F' H') {v : Option V} : ∀ {s : Slot}, SlotOk K F H v s → SlotOk K F' H' v s
  | .un, _ => trivial
  | .v d, ⟨v, e, r⟩ => ⟨v, e, r.mono x.mono⟩
  | .own d, ⟨p, e, n, o⟩ => by
    obtain ⟨u, q⟩ := o.there
    exact ⟨p, e, (x.keep p u n q).2, o.mono x.mono fun u q => (x.keep p u n q).1⟩
  | .tg _ _, ⟨e, r⟩ => ⟨e, r.mono x.mono⟩
  | .tb _, h => TabF.mono h x.mono
theorem EnvOk.mono {K : PySem.W.Frag} {F F' H H' : Hp} {σ : St} {ρ : List Slot} (h : EnvOk K F H σ ρ) (x : Ext F H F' H') : EnvOk K F' H' σ ρ :=
  ⟨h.len, fun i s e => let ⟨v, e1, o⟩ := h.at_ i s e; ⟨v, e1, o.mono x⟩, h.sep⟩
theorem EnvOk.set {K : PySem.W.Frag} {F H : Hp} {σ : St} {ρ : List Slot} (h : EnvOk K F H σ ρ) (i : Nat) {v : V} {d : D} (r : Rp K F v d) : EnvOk K F H (σ.set i (some v)) (ρ.set i (.v d)) := by
  refine ⟨by simp [h.len], fun j s e => ?_, fun a b p d' e' hab h1 h2 h3 h4 => ?_⟩
  · by_cases hj : j = i
    · subst hj
      have hl : j < ρ.length := by
        have := (List.getElem?_eq_some_iff.mp e).1
        simpa using this
      rw [List.getElem?_set_self hl] at e
      cases e
      exact ⟨some v, by rw [List.getElem?_set_self (by rw [h.len]; exact hl)], v, rfl, r⟩
    · rw [List.getElem?_set_ne (Ne.symm hj)] at e
      rw [List.getElem?_set_ne (Ne.symm hj)]
      exact h.at_ j s e
  · have na : a ≠ i := fun z => by
      subst z
      have hl : a < ρ.length := by
        have := (List.getElem?_eq_some_iff.mp h2).1
        simpa using this
      rw [List.getElem?_set_self hl] at h2; cases h2
    have nb : b ≠ i := fun z => by
      subst z
      have hl : b < ρ.length := by
        have := (List.getElem?_eq_some_iff.mp h4).1
        simpa using this
      rw [List.getElem?_set_self hl] at h4; cases h4
    rw [List.getElem?_set_ne (Ne.symm na)] at h1 h2
    rw [List.getElem?_set_ne (Ne.symm nb)] at h3 h4
    exact h.sep a b p d' e' hab h1 h2 h3 h4
-- data without lists and dicts
mutual
def D.noLst : D → Bool
  | .lst _ => false
  | .scr => false
  | .tup ds => D.noLsts ds
  | .dic _ => false
  | _ => true
def D.noLsts : List D → Bool
  | [] => true
  | d :: ds => d.noLst && D.noLsts ds
end
def Mutb (o : HO) : Prop := (∃ xs, o = .lst xs) ∨ ∃ ob u, o = .frz ob u ∧ ∀ xs, u ≠ .tup xs
/-- F' is F but for lists and dicts -/
def ButLst (F F' : Hp) : Prop := ∀ a o, F a = some o → F' a = some o ∨ Mutb o
theorem SqT.but {K : PySem.W.Frag} {F F' : Hp} (m : ButLst F F') {a : Addr} {xs : List V} (h : SqT K F a xs) : SqT K F' a xs := by
  rcases h with (h | ⟨o, h⟩) | h
  · exact .inl (.inl ((m _ _ h).resolve_right fun z => z.elim (fun ⟨_, z⟩ => nomatch z) fun ⟨_, _, z, _⟩ => nomatch z))
  · exact .inl (.inr ⟨o, (m _ _ h).resolve_right fun z => z.elim (fun ⟨_, z⟩ => nomatch z) fun ⟨ob, u, z, k⟩ => by cases z; exact k _ rfl⟩)
  · exact .inr h
mutual
theorem Rp.but {K : PySem.W.Frag} {F F' : Hp} (m : ButLst F F') : ∀ {v : V} {d : D}, d.noLst = true → Rp K F v d → Rp K F' v d
  | _, _, _, .non => .non
  | _, _, _, .bl b => .bl b
  | _, _, _, .int b => .int b
  | _, _, _, .str b => .str b
  | _, _, n, .tup h r => .tup (SqT.but m h) (RpA.but m (by simpa only [D.noLst] using n) r)
  | _, _, n, .lst h r => by simp [D.noLst] at n
  | _, _, n, .dic h r k => by simp [D.noLst] at n
  | _, _, n, .dicT .. => by simp [D.noLst] at n
  | _, _, _, .bag h => .bag ((m _ _ h).resolve_right fun z => z.elim (fun ⟨_, z⟩ => nomatch z) fun ⟨_, _, z, _⟩ => nomatch z)
  | _, _, n, .scr h l => by simp [D.noLst] at n
theorem RpA.but {K : PySem.W.Frag} {F F' : Hp} (m : ButLst F F') : ∀ {v : List V} {d : List D}, D.noLsts d = true → RpA K F v d → RpA K F' v d
  | _, _, _, .nil => .nil
  | _, _, n, .cons h r => by
    simp only [D.noLsts, Bool.and_eq_true] at n
    exact .cons (Rp.but m n.1 h) (RpA.but m n.2 r)
end
/-- a list of one's own is given away -/
theorem Ext.adopt {F1 H1 F H : Hp} (x : Ext F1 H1 F H) {p : Addr} {xs : List V} (hp : H1 p = none) (hF : F p = none) (h : H p = some (.lst xs)) : Ext F1 H1 (upd F p (.lst xs)) H := by
  have m : Same F (upd F p (.lst xs)) := fun b o e => by rw [upd_ne (ne_of_none e hF)]; exact e
  refine ⟨x.mono.trans m, fun a o e q => ?_, fun b o e => ?_⟩
  · rw [upd_ne (ne_of_none q hp)]
    exact x.keep a o e q
  · by_cases hb : b = p
    · subst hb
      rw [upd_same] at e; cases e
      exact h
    · rw [upd_ne hb] at e
      exact (x.sub b o e).mono m fun u q => q
end DV

namespace DV
open PySem PySem.Spec PyProof.Rows L2

/-! ### readings over data -/
abbrev DE := List Slot → (D → Prop) → Prop
abbrev DA := List Slot → (List D → Prop) → Prop
abbrev DT := List Slot → (Bool → Prop) → Prop
structure DN where
  nx : List Slot → Prop
  rt : D → Prop
  bk : List Slot → Prop := fun _ => False
  ct : List Slot → Prop := fun _ => False
  /-- a new list of one's own is handed back -/
  ro : D → Prop := rt
abbrev DS := DN → List Slot → Prop
/-- a def's promise over data -/
abbrev DSp := List D → (D → Prop) → Prop

theorem _root_.L2.PE.impD {X : Cx} {e : Expr} {t t' : TE} (h : PE X e t) (i : ∀ σ H Q, t' σ H Q → t σ H Q) : PE X e t' := ⟨fun p s σ H Q I q => h.run p s σ H Q I (i _ _ _ q)⟩
theorem _root_.L2.PT.impD {X : Cx} {e : Expr} {t t' : TT} (h : PT X e t) (i : ∀ σ H Q, t' σ H Q → t σ H Q) : PT X e t' := ⟨fun p s σ H Q I q => h.run p s σ H Q I (i _ _ _ q)⟩
theorem _root_.L2.PW.impD {X : Cx} {e : Expr} {t t' : TT} (h : PW X e t) (i : ∀ σ H Q, t' σ H Q → t σ H Q) : PW X e t' := ⟨fun w p s σ H Q I q => h.run w p s σ H Q I (i _ _ _ q)⟩
theorem _root_.L2.PA.impD {X : Cx} {e : List Expr} {t t' : TA} (h : PA X e t) (i : ∀ σ H Q, t' σ H Q → t σ H Q) : PA X e t' := ⟨fun o p s σ H Q I q => h.run o p s σ H Q I (i _ _ _ q)⟩
theorem _root_.L2.PS.impD {X : Cx} {e : Stmt} {t t' : TS} (h : PS X e t) (i : ∀ N σ H, t' N σ H → t N σ H) : PS X e t' := ⟨fun p s σ H N I q => h.run p s σ H N I (i _ _ _ q)⟩
theorem _root_.L2.PSs.impD {X : Cx} {e : List Stmt} {t t' : TS} (h : PSs X e t) (i : ∀ N σ H, t' N σ H → t N σ H) : PSs X e t' := ⟨fun p s σ H N I q => h.run p s σ H N I (i _ _ _ q)⟩

def lfE (K : PySem.W.Frag) (t : DE) : TE := fun σ H Q => ∃ ρ F Q0, Sub F H ∧ EnvOk K F H σ ρ ∧ t ρ Q0 ∧ ∀ v H' F' d, Ext F H F' H' → Rp K F' v d → Q0 d → Q v H'
def lfA (K : PySem.W.Frag) (t : DA) : TA := fun σ H Q => ∃ ρ F Q0, Sub F H ∧ EnvOk K F H σ ρ ∧ t ρ Q0 ∧ ∀ v H' F' d, Ext F H F' H' → RpA K F' v d → Q0 d → Q v H'
def lfT (K : PySem.W.Frag) (t : DT) : TT := fun σ H Q => ∃ ρ F Q0, Sub F H ∧ EnvOk K F H σ ρ ∧ t ρ Q0 ∧ ∀ b H' F', Ext F H F' H' → Q0 b → Q b H'
abbrev PD (X : Cx) (e : Expr) (t : DE) : Prop := PE X e (lfE X.K t)
abbrev PDA (X : Cx) (es : List Expr) (t : DA) : Prop := PA X es (lfA X.K t)
abbrev PDT (X : Cx) (e : Expr) (t : DT) : Prop := PT X e (lfT X.K t)
abbrev PDW (X : Cx) (e : Expr) (t : DT) : Prop := PW X e (lfT X.K t)

section
variable {X : Cx} {e a b c : Expr} {es rest : List Expr} {t ta tb tc : DE} {tr : DA} {tA tB : DT} {pos : Pos}

/-! ### names, constants -/
def dVar (i : Nat) : DE := fun ρ Q => match ρ[i]? with
  | some (.v d) => Q d
  | some (.tg _ d) => Q d
  | _ => False
def dC (d : D) : DE := fun _ Q => Q d
theorem pd_var {i : Nat} (h : PE X e (tVar i)) : PD X e (dVar i) := h.impD fun σ H Q ⟨ρ, F, Q0, s, en, ht, k⟩ => by
  unfold dVar at ht
  cases hi : ρ[i]? with
  | none => rw [hi] at ht; exact ht.elim
  | some sl =>
    rw [hi] at ht
    cases sl with
    | un => exact ht.elim
    | own d => exact ht.elim
    | v d =>
      obtain ⟨x, e1, v, rfl, r⟩ := en.at_ i _ hi
      exact ⟨v, e1, k v H F d (.refl s) r ht⟩
    | tg u d =>
      obtain ⟨x, e1, rfl, r⟩ := en.at_ i _ hi
      exact ⟨u, e1, k u H F d (.refl s) r ht⟩
    | tb T => exact ht.elim
theorem pd_c {v : V} {d : D} (h : PE X e (tC v)) (r : ∀ K F, Rp K F v d) : PD X e (dC d) := h.impD fun σ H Q ⟨ρ, F, Q0, s, en, ht, k⟩ => k v H F d (.refl s) (r _ _) ht
theorem pd_int {i : Int} {j pos} : PD X (.Constant (.int i) j pos) (dC (.int i)) := pd_c pe_int fun _ _ => .int _
theorem pd_bl {b : Bool} {j pos} : PD X (.Constant (.bool b) j pos) (dC (.bl b)) := pd_c pe_bl fun _ _ => .bl _
theorem pd_non {j pos} : PD X (.Constant .none j pos) (dC .non) := pd_c pe_non fun _ _ => .non
theorem pd_str {x : Str} {j pos} : PD X (.Constant (.str x) j pos) (dC (.str x)) := pd_c pe_str fun _ _ => .str _
/-! ### operators -/
abbrev D2 := D → D → (D → Prop) → Prop
def OpD (K : PySem.W.Frag) (r : R2) (g : D2) : Prop := ∀ (F H : Hp) (x y : V) (dx dy : D) (Q0 : D → Prop) (Q : VK), Sub F H → Rp K F x dx → Rp K F y dy → g dx dy Q0 → (∀ v H' F' d, Ext F H F' H' → Rp K F' v d → Q0 d → Q v H') → r x y H Q
def dOp (g : D2) (ta tb : DE) : DE := fun ρ Q => ta ρ fun x => tb ρ fun y => g x y Q
theorem lf_op {r : R2} {g : D2} {K : PySem.W.Frag} (hg : OpD K r g) : ∀ σ H Q, lfE K (dOp g ta tb) σ H Q → tOp r (lfE K ta) (lfE K tb) σ H Q := fun σ H Q ⟨ρ, F, Q0, s, en, ht, k⟩ =>
  ⟨ρ, F, _, s, en, ht, fun x H1 F1 dx x1 rx q1 => ⟨ρ, F1, _, x1.sub, en.mono x1, q1, fun y H2 F2 dy x2 ry q2 =>
    hg F2 H2 x y dx dy Q0 Q x2.sub (rx.mono x2.mono) ry q2 fun v H' F' d x3 r3 q3 => k v H' F' d ((x1.trans x2).trans x3) r3 q3⟩⟩
theorem pd_op {op : Operator} {r : R2} {g : D2} (ho : OpR X (binaryOp op) r) (hg : OpD X.K r g) (ha : PD X a ta) (hb : PD X b tb) : PD X (.BinOp a op b pos) (dOp g ta tb) := (pe_op ho ha hb).impD (lf_op hg)
theorem pd_cmp {op : CmpOp} {r : R2} {g : D2} (ho : OpR X (compareOp op) r) (hg : OpD X.K r g) (hm : behindInMarks op b = false) (ha : PD X a ta) (hb : PD X b tb) : PD X (.Compare a [op] [b] pos) (dOp g ta tb) := (pe_cmpR ho ha hb hm).impD (lf_op hg)
theorem pd_ix {r : R2} {g : D2} (hr : IxR X r) (hg : OpD X.K r g) (ha : PD X a ta) (hb : PD X b tb) (hs : PlainIx b) : PD X (.Subscript a b pos) (dOp g ta tb) := (pe_ix hr ha hb hs).impD (lf_op hg)
/-- a chain of two comparisons -/
def dChain (g g' : D2) (ta tb tc : DE) : DE := fun ρ Q => ta ρ fun x => tb ρ fun y => g x y fun z => match z with
  | .bl k => if k = true then tc ρ fun w => g' y w Q else Q (.bl false)
  | _ => False
/-! the operators over data -/
def addD : D2
  | .int i, .int j, Q => Q (.int (i + j))
  | .str i, .str j, Q => i.length + j.length ≤ sizeLine ∧ Q (.str (i ++ j))
  | .tup xs, .tup ys, Q => xs ≠ [] ∧ xs.length + ys.length ≤ sizeLine ∧ Q (.tup (xs ++ ys))
  | .lst xs, .lst ys, Q => xs.length + ys.length ≤ sizeLine ∧ Q (.lst (xs ++ ys))
  | _, _, _ => False
def intD (C : Int → Int → Prop) (f : Int → Int → D) : D2
  | .int i, .int j, Q => C i j ∧ Q (f i j)
  | _, _, _ => False
def intD0 (f : Int → Int → D) : D2
  | .int i, .int j, Q => Q (f i j)
  | _, _, _ => False
/-- a product's size: one side is small -/
def MulOk (i j : Int) : Prop := (-(2 ^ 64) < i ∧ i < 2 ^ 64) ∨ (-(2 ^ 64) < j ∧ j < 2 ^ 64)
def subD : D2 := intD0 fun i j => .int (i - j)
def mulD : D2 := intD MulOk fun i j => .int (i * j)
/-- a divisor -/
def DivOk (j : Int) : Prop := j ≠ 0 ∧ j.natAbs.log2 < 9000
def fdivD : D2 := intD (fun _ j => DivOk j) fun i j => .int (i.fdiv j)
def modD : D2 := intD (fun _ j => j ≠ 0) fun i j => .int (i.fmod j)
def powD : D2 := intD (fun i j => 0 ≤ j ∧ j ≤ 1000000 ∧ i.natAbs < 2 ^ 64) fun i j => .int (i ^ j.toNat)
theorem opD_int0 {K : PySem.W.Frag} {g : Int → Int → V} {f : Int → Int → D} (h : ∀ i j K F, Rp K F (g i j) (f i j)) : OpD K (rI0 g) (intD0 f) := fun F H x y dx dy Q0 Q s rx ry q k => by
  cases rx <;> cases ry <;> first | exact q.elim | skip
  exact ⟨_, _, rfl, rfl, k _ H F _ (.refl s) (h _ _ _ _) q⟩
theorem opD_int {K : PySem.W.Frag} {C : Int → Int → Prop} {g : Int → Int → V} {f : Int → Int → D} (h : ∀ i j K F, Rp K F (g i j) (f i j)) : OpD K (rI C g) (intD C f) := fun F H x y dx dy Q0 Q s rx ry q k => by
  cases rx <;> cases ry <;> first | exact q.elim | skip
  exact ⟨_, _, rfl, rfl, q.1, k _ H F _ (.refl s) (h _ _ _ _) q.2⟩
theorem pd_sub (ha : PD X a ta) (hb : PD X b tb) : PD X (.BinOp a .Sub b pos) (dOp subD ta tb) := pd_op op_sub (opD_int0 fun _ _ _ _ => .int _) ha hb
theorem pd_mul (ha : PD X a ta) (hb : PD X b tb) : PD X (.BinOp a .Mult b pos) (dOp mulD ta tb) := pd_op op_mul (opD_int fun _ _ _ _ => .int _) ha hb
theorem op_fdivA : OpR X (binaryOp .FloorDiv) (rI (fun _ j => DivOk j) fun i j => .int (i.fdiv j)) := opI fun _ _ _ _ _ _ _ hc q => floordiv_int hc.1 q (.inl (PyProof.noPylong_of_log2 hc.2))
theorem pd_fdiv (ha : PD X a ta) (hb : PD X b tb) : PD X (.BinOp a .FloorDiv b pos) (dOp fdivD ta tb) := pd_op op_fdivA (opD_int fun _ _ _ _ => .int _) ha hb
theorem pd_mod (ha : PD X a ta) (hb : PD X b tb) : PD X (.BinOp a .Mod b pos) (dOp modD ta tb) := pd_op op_modN (opD_int fun _ _ _ _ => .int _) ha hb
def rAddA (K : PySem.W.Frag) : R2 := fun x y H Q => ((rI0 (fun i j => .int (i + j)) x y H Q ∨ (∃ i j, x = .str i ∧ y = .str j ∧ i.length + j.length ≤ sizeLine ∧ Q (.str (i ++ j)) H)) ∨ rCatT K x y H Q) ∨ rCat x y H Q
theorem opD_add {K : PySem.W.Frag} : OpD K (rAddA K) addD := fun F H x y dx dy Q0 Q s rx ry q k => by
  cases rx <;> cases ry <;> first | exact q.elim | skip
  · exact .inl (.inl (.inl ⟨_, _, rfl, rfl, k _ H F _ (.refl s) (.int _) q⟩))
  · exact .inl (.inl (.inr ⟨_, _, rfl, rfl, q.1, k _ H F _ (.refl s) (.str _) q.2⟩))
  · rename_i a1 xs1 ds1 h1 r1 a2 xs2 ds2 h2 r2
    refine .inl (.inr ⟨_, _, _, _, rfl, rfl, s.seqT h1, s.seqT h2, fun z => q.1 ?_, by rw [r1.length, r2.length]; exact q.2.1, fun e => ?_, fun _ p hp => ?_⟩)
    · subst z; cases r1; rfl
    · subst e
      cases r2
      have q2 := q.2.2
      rw [List.append_nil] at q2
      exact k _ H F _ (.refl s) (.tup h1 r1) q2
    · have x := Ext.newT (xs := xs1 ++ xs2) s hp
      exact k _ _ _ _ x (.tup (.inl (.inl upd_same)) ((r1.append r2).mono x.mono)) q.2.2
  · rename_i a1 xs1 ds1 h1 r1 a2 xs2 ds2 h2 r2
    refine .inr ⟨_, _, _, _, rfl, rfl, s.lst h1, s.lst h2, by rw [r1.length, r2.length]; exact q.1, fun p hp => ?_⟩
    have x := Ext.newL (xs := xs1 ++ xs2) s hp
    exact k _ _ _ _ x (.lst upd_same ((r1.append r2).mono x.mono)) q.2
theorem pd_add (ha : PD X a ta) (hb : PD X b tb) : PD X (.BinOp a .Add b pos) (dOp addD ta tb) := pd_op (((op_add.or op_add_str).or op_catT).or op_cat) opD_add ha hb

/-! comparisons -/
def ltI : D2 := intD0 fun i j => .bl (decide (i < j))
def leI : D2 := intD0 fun i j => .bl (decide (i ≤ j))
def gtI : D2 := intD0 fun i j => .bl (decide (j < i))
def geI : D2 := intD0 fun i j => .bl (decide (j ≤ i))
theorem od_lt {K : PySem.W.Frag} : OpD K (rI0 fun i j => .bl (decide (i < j))) ltI := opD_int0 fun _ _ _ _ => .bl _
theorem od_gt {K : PySem.W.Frag} : OpD K (rI0 fun i j => .bl (decide (j < i))) gtI := opD_int0 fun _ _ _ _ => .bl _
mutual
def D.toP : D → PyData
  | .non => .none
  | .bl b => .bool b
  | .int i => .int i
  | .str x => .str x
  | .tup xs => .tuple (D.toPs xs)
  | .lst xs => .list (D.toPs xs)
  | .dic _ => .none
  | .bag => .none
  | .scr => .none
def D.toPs : List D → List PyData
  | [] => []
  | x :: xs => D.toP x :: D.toPs xs
end
mutual
def D.flatOk : D → Bool
  | .tup xs => D.flatOks xs
  | .lst xs => D.flatOks xs
  | .dic _ => false
  | .bag => false
  | .scr => false
  | _ => true
def D.flatOks : List D → Bool
  | [] => true
  | x :: xs => D.flatOk x && D.flatOks xs
end
/-- data that == may compare -/
def D.lay (d : D) : Bool := d.flatOk && SeqAt.shaped d.toP
mutual
def D.eqb : D → D → Bool
  | .non, .non => true
  | .bl a, .bl b => a == b
  | .bl a, .int j => (if a then 1 else 0) == j
  | .int i, .bl b => i == (if b then 1 else 0)
  | .int i, .int j => i == j
  | .str x, .str y => x == y
  | .lst xs, .lst ys => D.eqbs xs ys
  | .tup xs, .tup ys => D.eqbs xs ys
  | _, _ => false
def D.eqbs : List D → List D → Bool
  | [], [] => true
  | x :: xs, y :: ys => D.eqb x y && D.eqbs xs ys
  | _, _ => false
end
mutual
theorem eqb_toP : ∀ (x y : D), x.flatOk = true → y.flatOk = true → PyData.eqv x.toP y.toP = D.eqb x y
  | .non, y, _, h => by cases y <;> first | rfl | (simp [D.flatOk] at h; done) | simp [D.toP, PyData.eqv, D.eqb]
  | .bl a, y, _, h => by cases y <;> first | rfl | (simp [D.flatOk] at h; done) | simp [D.toP, PyData.eqv, D.eqb]
  | .int a, y, _, h => by cases y <;> first | rfl | (simp [D.flatOk] at h; done) | simp [D.toP, PyData.eqv, D.eqb]
  | .str a, y, _, h => by cases y <;> first | rfl | (simp [D.flatOk] at h; done) | simp [D.toP, PyData.eqv, D.eqb]
  | .tup xs, y, hx, h => by
    cases y with
    | tup ys =>
      simp only [D.flatOk] at hx h
      simp only [D.toP, PyData.eqv, D.eqb]
      exact eqbs_toP xs ys hx h
    | _ => first | rfl | (simp [D.flatOk] at h; done) | simp [D.toP, PyData.eqv, D.eqb]
  | .lst xs, y, hx, h => by
    cases y with
    | lst ys =>
      simp only [D.flatOk] at hx h
      simp only [D.toP, PyData.eqv, D.eqb]
      exact eqbs_toP xs ys hx h
    | _ => first | rfl | (simp [D.flatOk] at h; done) | simp [D.toP, PyData.eqv, D.eqb]
  | .dic _, _, h, _ => by simp [D.flatOk] at h
  | .bag, _, h, _ => by simp [D.flatOk] at h
  | .scr, _, h, _ => by simp [D.flatOk] at h
theorem eqbs_toP : ∀ (x y : List D), D.flatOks x = true → D.flatOks y = true → PyData.eqvAll (D.toPs x) (D.toPs y) = D.eqbs x y
  | [], [], _, _ => rfl
  | [], _ :: _, _, _ => rfl
  | _ :: _, [], _, _ => rfl
  | x :: xs, y :: ys, hx, hy => by
    simp only [D.flatOks, Bool.and_eq_true] at hx hy
    simp only [D.toPs, PyData.eqvAll, D.eqbs]
    rw [eqb_toP x y hx.1 hy.1, eqbs_toP xs ys hx.2 hy.2]
end
mutual
theorem Rp.dp {K : PySem.W.Frag} {F H : Hp} (s : Sub F H) : ∀ {v : V} {d : D}, Rp K F v d → d.flatOk = true → Dp K H v d.toP
  | _, _, .non, _ => .non
  | _, _, .bl b, _ => .bl b
  | _, _, .int b, _ => .int b
  | _, _, .str b, _ => .str b
  | _, _, .tup h r, f => .tup (s.seqT h) (RpA.dp s r f)
  | _, _, .lst h r, f => .lst (.of (s.lst h)) (RpA.dp s r f)
  | _, _, .dic _ _ _, f => by simp [D.flatOk] at f
  | _, _, .dicT .., f => by simp [D.flatOk] at f
  | _, _, .bag _, f => by simp [D.flatOk] at f
  | _, _, .scr _ _, f => by simp [D.flatOk] at f
theorem RpA.dp {K : PySem.W.Frag} {F H : Hp} (s : Sub F H) : ∀ {v : List V} {d : List D}, RpA K F v d → D.flatOks d = true → DpAll K H v (D.toPs d)
  | _, _, .nil, _ => .nil
  | _, _, .cons h r, f => by
    simp only [D.flatOks, Bool.and_eq_true] at f
    exact .cons (Rp.dp s h f.1) (RpA.dp s r f.2)
end
def eqD : D2 := fun x y Q => x.lay = true ∧ y.lay = true ∧ Q (.bl (D.eqb x y))
def neD : D2 := fun x y Q => x.lay = true ∧ y.lay = true ∧ Q (.bl (!D.eqb x y))
theorem lay_and {d : D} (h : d.lay = true) : d.flatOk = true ∧ SeqAt.shaped d.toP = true := Bool.and_eq_true_iff.mp h
theorem od_eq {K : PySem.W.Frag} : OpD K (rEqD K) eqD := fun F H x y dx dy Q0 Q s rx ry q k => by
  obtain ⟨h1, h2, q⟩ := q
  refine ⟨dx.toP, dy.toP, rx.dp s (lay_and h1).1, ry.dp s (lay_and h2).1, (lay_and h1).2, (lay_and h2).2, ?_⟩
  rw [eqb_toP dx dy (lay_and h1).1 (lay_and h2).1]
  exact k _ H F _ (.refl s) (.bl _) q
theorem od_ne {K : PySem.W.Frag} : OpD K (rNeD K) neD := fun F H x y dx dy Q0 Q s rx ry q k => by
  obtain ⟨h1, h2, q⟩ := q
  refine ⟨dx.toP, dy.toP, rx.dp s (lay_and h1).1, ry.dp s (lay_and h2).1, (lay_and h1).2, (lay_and h2).2, ?_⟩
  rw [eqb_toP dx dy (lay_and h1).1 (lay_and h2).1]
  exact k _ H F _ (.refl s) (.bl _) q
def inD : D2 := fun x y Q => match y with
  | .lst ds => x.lay = true ∧ (D.lst ds).lay = true ∧ Q (.bl (ds.any fun z => D.eqb z x))
  | _ => False
def notInD : D2 := fun x y Q => match y with
  | .lst ds => x.lay = true ∧ (D.lst ds).lay = true ∧ Q (.bl (!ds.any fun z => D.eqb z x))
  | _ => False
def isNonD : D2 := fun x y Q => match y with
  | .non => Q (.bl (match x with | .non => true | _ => false))
  | _ => False
def notNonD : D2 := fun x y Q => match y with
  | .non => Q (.bl (match x with | .non => false | _ => true))
  | _ => False
theorem od_notN {K : PySem.W.Frag} : OpD K (fun x y H Q => y = .non ∧ Q (.bl (!decide (x = .non))) H) notNonD := fun F H x y dx dy Q0 Q s rx ry q k => by
  cases ry <;> first | exact q.elim | skip
  refine ⟨rfl, ?_⟩
  cases rx <;> exact k _ H F _ (.refl s) (.bl _) q

def isBD : D2 := fun x y Q => match x, y with
  | .bl a, .bl b => Q (.bl (decide (a = b)))
  | _, _ => False
/-! ### unary operators, tests, and, or, not, if else -/
def dUn (g : D → (D → Prop) → Prop) (ta : DE) : DE := fun ρ Q => ta ρ fun x => g x Q
def negD : D → (D → Prop) → Prop
  | .int i, Q => Q (.int (-i))
  | _, _ => False
theorem pd_neg (ha : PD X a ta) : PD X (.UnaryOp .USub a pos) (dUn negD ta) := (pe_un un_neg ha).impD fun σ H Q ⟨ρ, F, Q0, s, en, ht, k⟩ =>
  ⟨ρ, F, _, s, en, ht, fun x H1 F1 dx x1 rx q1 => by
    cases rx <;> first | exact q1.elim | skip
    exact ⟨_, rfl, k _ H1 F1 _ x1 (.int _) q1⟩⟩
def dTest (t : DE) : DT := fun ρ Q => t ρ fun x => match x with
  | .bl b => Q b
  | _ => False
theorem lf_test {K : PySem.W.Frag} : ∀ σ H Q, lfT K (dTest t) σ H Q → (lfE K t) σ H (fun x H' => ∃ k, x = .bl k ∧ Q k H') := fun σ H Q ⟨ρ, F, Q0, s, en, ht, k⟩ =>
  ⟨ρ, F, _, s, en, ht, fun x H1 F1 dx x1 rx q1 => by
    cases dx <;> first | exact q1.elim | skip
    cases rx
    exact ⟨_, rfl, k _ H1 F1 x1 q1⟩⟩
theorem pdt_val (h : PD X e t) (he : ∀ whole, isTrue e X.env whole = (do let v ← whole; standAt e.pos; holding [v] (truthy v)) := by intro _; rfl) : PDT X e (dTest t) := (pt_val h he).impD lf_test
theorem pdt_cmp {op : CmpOp} {r : R2} {g : D2} (ho : OpR X (compareOp op) r) (hg : OpD X.K r g) (hm : behindInMarks op b = false) (ha : PD X a ta) (hb : PD X b tb) : PDT X (.Compare a [op] [b] pos) (dTest (dOp g ta tb)) :=
  (pt_cmpR ho ha hb hm).impD fun σ H Q h => lf_op hg σ H _ (by
    obtain ⟨ρ, F, Q0, s, en, ht, k⟩ := h
    refine ⟨ρ, F, _, s, en, ht, fun x H1 F1 dx x1 rx q1 => ?_⟩
    cases dx <;> first | exact q1.elim | skip
    cases rx
    exact ⟨_, rfl, k _ H1 F1 x1 q1⟩)
def dAnd (t u : DT) : DT := fun ρ Q => t ρ fun c => if c = true then u ρ Q else Q false
def dOr (t u : DT) : DT := fun ρ Q => t ρ fun c => if c = true then Q true else u ρ Q
def dNot (t : DT) : DT := fun ρ Q => t ρ fun c => Q (!c)
theorem pdw_and1 (h : PDT X a tA) : PDW X (.BoolOp .And [a] pos) tA := pw_and1 h
theorem pdw_or1 (h : PDT X a tA) : PDW X (.BoolOp .Or [a] pos) tA := pw_or1 h
theorem pdw_and (ha : PDT X a tA) (hb : PDW X (.BoolOp .And (b :: rest) pos) tB) : PDW X (.BoolOp .And (a :: b :: rest) pos) (dAnd tA tB) := (pw_and ha hb).impD fun σ H Q ⟨ρ, F, Q0, s, en, ht, k⟩ =>
  ⟨ρ, F, _, s, en, ht, fun c H1 F1 x1 q1 => by
    cases c with
    | true => exact iteT ⟨ρ, F1, Q0, x1.sub, en.mono x1, q1, fun b H2 F2 x2 q2 => k b H2 F2 (x1.trans x2) q2⟩
    | false => exact iteF (k _ H1 F1 x1 q1)⟩
theorem pdw_or (ha : PDT X a tA) (hb : PDW X (.BoolOp .Or (b :: rest) pos) tB) : PDW X (.BoolOp .Or (a :: b :: rest) pos) (dOr tA tB) := (pw_or ha hb).impD fun σ H Q ⟨ρ, F, Q0, s, en, ht, k⟩ =>
  ⟨ρ, F, _, s, en, ht, fun c H1 F1 x1 q1 => by
    cases c with
    | true => exact iteT (k _ H1 F1 x1 q1)
    | false => exact iteF ⟨ρ, F1, Q0, x1.sub, en.mono x1, q1, fun b H2 F2 x2 q2 => k b H2 F2 (x1.trans x2) q2⟩⟩
theorem pdt_w (h : PDW X e tA) : PDT X e tA := h.pt
theorem pdt_not (ha : PDT X a tA) : PDT X (.UnaryOp .Not a pos) (dNot tA) := (pt_not ha).impD fun σ H Q ⟨ρ, F, Q0, s, en, ht, k⟩ =>
  ⟨ρ, F, _, s, en, ht, fun c H1 F1 x1 q1 => k _ H1 F1 x1 q1⟩
/-- as values -/
def dAndV (ta tb : DE) : DE := fun ρ Q => ta ρ fun x => match x with
  | .bl c => if c = true then tb ρ Q else Q (.bl false)
  | _ => False
def dOrV (ta tb : DE) : DE := fun ρ Q => ta ρ fun x => match x with
  | .bl c => if c = true then Q (.bl true) else tb ρ Q
  | _ => False
def notD : D → (D → Prop) → Prop
  | .bl c, Q => Q (.bl (!c))
  | _, _ => False
theorem pd_one {op} (h : PD X a t) : PD X (.BoolOp op [a] pos) t := pe_one h
theorem pd_and (ha : PD X a ta) (hb : PD X (.BoolOp .And (b :: rest) pos) tb) : PD X (.BoolOp .And (a :: b :: rest) pos) (dAndV ta tb) := (pe_and ha hb).impD fun σ H Q ⟨ρ, F, Q0, s, en, ht, k⟩ =>
  ⟨ρ, F, _, s, en, ht, fun x H1 F1 dx x1 rx q1 => by
    cases dx <;> first | exact q1.elim | skip
    cases rx
    rename_i c
    refine ⟨c, rfl, ?_⟩
    cases c with
    | true => exact iteT ⟨ρ, F1, Q0, x1.sub, en.mono x1, q1, fun v H2 F2 d x2 r2 q2 => k v H2 F2 d (x1.trans x2) r2 q2⟩
    | false => exact iteF (k _ H1 F1 _ x1 (.bl _) q1)⟩
def dIf (c : DT) (ta tb : DE) : DE := fun ρ Q => c ρ fun k => if k = true then ta ρ Q else tb ρ Q
theorem pd_if (hc : PDT X c tA) (ha : PD X a ta) (hb : PD X b tb) : PD X (.IfExp c a b pos) (dIf tA ta tb) := (pe_ifExp hc ha hb).impD fun σ H Q ⟨ρ, F, Q0, s, en, ht, k⟩ =>
  ⟨ρ, F, _, s, en, ht, fun c H1 F1 x1 q1 => by
    cases c with
    | true => exact iteT ⟨ρ, F1, Q0, x1.sub, en.mono x1, q1, fun v H2 F2 d x2 r2 q2 => k v H2 F2 d (x1.trans x2) r2 q2⟩
    | false => exact iteF ⟨ρ, F1, Q0, x1.sub, en.mono x1, q1, fun v H2 F2 d x2 r2 q2 => k v H2 F2 d (x1.trans x2) r2 q2⟩⟩

/-! ### arguments, displays -/
def dNil : DA := fun _ Q => Q []
def dCons (ta : DE) (tr : DA) : DA := fun ρ Q => ta ρ fun x => tr ρ fun xs => Q (x :: xs)
theorem pda_nil : PDA X [] dNil := pa_nil.impD fun σ H Q ⟨ρ, F, Q0, s, en, ht, k⟩ => k [] H F [] (.refl s) .nil ht
theorem pda_cons (ha : PD X e t) (hr : PDA X es tr) (hs : starEach (e :: es) X.env = (false, eval e X.env) :: starEach es X.env := by rfl) : PDA X (e :: es) (dCons t tr) := (pa_cons ha hr hs).impD fun σ H Q ⟨ρ, F, Q0, s, en, ht, k⟩ =>
  ⟨ρ, F, _, s, en, ht, fun x H1 F1 dx x1 rx q1 => ⟨ρ, F1, _, x1.sub, en.mono x1, q1, fun xs H2 F2 ds x2 rs q2 => k _ H2 F2 _ (x1.trans x2) (.cons (rx.mono x2.mono) rs) q2⟩⟩
def dTup (t : DA) : DE := fun ρ Q => t ρ fun xs => xs.length ≤ sizeLine ∧ Q (.tup xs)
def dLst (t : DA) : DE := fun ρ Q => t ρ fun xs => xs.length ≤ sizeLine ∧ Q (.lst xs)
theorem pd_tup {x1} (h : PDA X es tr) : PD X (.Tuple es x1 pos) (dTup tr) := (pe_tup h).impD fun σ H Q ⟨ρ, F, Q0, s, en, ht, k⟩ =>
  ⟨ρ, F, _, s, en, ht, fun xs H1 F1 ds x1 rs q1 => ⟨by rw [rs.length]; exact q1.1, fun p hp => by
    have x := Ext.newT (xs := xs) x1.sub hp
    exact k _ _ _ _ (x1.trans x) (.tup (.inl (.inl upd_same)) (rs.mono x.mono)) q1.2⟩⟩
theorem pd_lst (h : PDA X es tr) : PD X (.List es pos) (dLst tr) := (pe_lst h).impD fun σ H Q ⟨ρ, F, Q0, s, en, ht, k⟩ =>
  ⟨ρ, F, _, s, en, ht, fun xs H1 F1 ds x1 rs q1 => ⟨by rw [rs.length]; exact q1.1, fun p hp => by
    have x := Ext.newL (xs := xs) x1.sub hp
    exact k _ _ _ _ (x1.trans x) (.lst upd_same (rs.mono x.mono)) q1.2⟩⟩
end
end DV

namespace DV
open PySem PySem.Spec PyProof.Rows L2

/-! ### statements -/
structure Sta (K : PySem.W.Frag) (F0 H0 G F : Hp) (σ : St) (H : Hp) (ρ : List Slot) : Prop where
  bse : Sub F0 H0
  pin : Same G F
  ext : Ext F0 H0 F H
  env : EnvOk K F H σ ρ
  own : ∀ (i : Nat) p d, σ[i]? = some (some (.ref p)) → ρ[i]? = some (.own d) → H0 p = none
def StOk (K : PySem.W.Frag) (F0 H0 G : Hp) (σ : St) (H : Hp) (ρ : List Slot) : Prop := ∃ F, Sta K F0 H0 G F σ H ρ
theorem Sta.step {K : PySem.W.Frag} {F0 H0 G F F1 H H1 : Hp} {σ : St} {ρ : List Slot} (s : Sta K F0 H0 G F σ H ρ) (x : Ext F H F1 H1) : Sta K F0 H0 G F1 σ H1 ρ := ⟨s.bse, s.pin.trans x.mono, s.ext.trans x, s.env.mono x, s.own⟩
theorem Sta.set {K : PySem.W.Frag} {F0 H0 G F H : Hp} {σ : St} {ρ : List Slot} (s : Sta K F0 H0 G F σ H ρ) (i : Nat) {v : V} {d : D} (r : Rp K F v d) : Sta K F0 H0 G F (σ.set i (some v)) H (ρ.set i (.v d)) := by
  refine ⟨s.bse, s.pin, s.ext, s.env.set i r, fun j p e h1 h2 => ?_⟩
  have nj : j ≠ i := fun z => by
    subst z
    have hl : j < ρ.length := by
      have := (List.getElem?_eq_some_iff.mp h2).1
      simpa using this
    rw [List.getElem?_set_self hl] at h2; cases h2
  rw [List.getElem?_set_ne (Ne.symm nj)] at h1 h2
  exact s.own j p e h1 h2
structure EndsOk (K : PySem.W.Frag) (F0 H0 G : Hp) (N : DN) (Dn : Ends) : Prop where
  nx : ∀ σ H ρ, StOk K F0 H0 G σ H ρ → N.nx ρ → Dn.nx σ H
  rt : ∀ v H' F' d, Ext F0 H0 F' H' → Rp K F' v d → N.rt d → Dn.rt v H'
  ro : ∀ p d H' F', Ext F0 H0 F' H' → H0 p = none → F' p = none → OwnAt K F' H' p d → N.ro d → Dn.rt (.ref p) H'
  bk : ∀ σ H ρ, StOk K F0 H0 G σ H ρ → N.bk ρ → Dn.bk σ H
  ct : ∀ σ H ρ, StOk K F0 H0 G σ H ρ → N.ct ρ → Dn.ct σ H
def lfS (K : PySem.W.Frag) (t : DS) : TS := fun Dn σ H => ∃ F0 H0 G ρ N, StOk K F0 H0 G σ H ρ ∧ t N ρ ∧ EndsOk K F0 H0 G N Dn
abbrev PDS (X : Cx) (st : Stmt) (t : DS) : Prop := PS X st (lfS X.K t)
abbrev PDSs (X : Cx) (st : List Stmt) (t : DS) : Prop := PSs X st (lfS X.K t)

section
variable {X : Cx} {e a b c : Expr} {es : List Expr} {st : Stmt} {sts as bs : List Stmt} {t ta tb tc : DE} {tr : DA} {tA tB : DT} {u v w : DS} {pos : Pos}

def sNext : DS := fun N ρ => N.nx ρ
def sSeq (t u : DS) : DS := fun N ρ => t { N with nx := u N } ρ
theorem pds_nil : PDSs X [] sNext := pss_nil.impD fun N σ H ⟨F0, H0, G, ρ, M, so, ht, k⟩ => k.nx σ H ρ so ht
theorem pds_cons (h1 : PDS X st u) (h2 : PDSs X sts v) : PDSs X (st :: sts) (sSeq u v) := (pss_cons h1 h2).impD fun N σ H ⟨F0, H0, G, ρ, M, so, ht, k⟩ =>
  ⟨F0, H0, G, ρ, _, so, ht, fun σ' H' ρ' so' q => ⟨F0, H0, G, ρ', M, so', q, k⟩, k.rt, k.ro, k.bk, k.ct⟩
theorem pds_one (h1 : PDS X st u) : PDSs X [st] u := pss_one h1
def sBreak : DS := fun N ρ => N.bk ρ
def sCont : DS := fun N ρ => N.ct ρ
def sNever : DS := fun _ _ => False
theorem pds_never : PDS X st sNever := ps_never.impD fun N σ H ⟨F0, H0, G, ρ, M, so, ht, k⟩ => ht.elim
theorem pdss_never : PDSs X sts sNever := pss_never.impD fun N σ H ⟨F0, H0, G, ρ, M, so, ht, k⟩ => ht.elim
theorem Sta.lf {K : PySem.W.Frag} {F0 H0 G F H : Hp} {σ : St} {ρ : List Slot} (s : Sta K F0 H0 G F σ H ρ) {t : DE} {Q0 : D → Prop} (ht : t ρ Q0) {Q : VK} (k : ∀ v H' F' d, Sta K F0 H0 G F' σ H' ρ → Rp K F' v d → Q0 d → Q v H') : lfE K t σ H Q :=
  ⟨ρ, F, Q0, s.ext.sub, s.env, ht, fun v H' F' d x r q => k v H' F' d (s.step x) r q⟩
theorem Sta.lfT {K : PySem.W.Frag} {F0 H0 G F H : Hp} {σ : St} {ρ : List Slot} (s : Sta K F0 H0 G F σ H ρ) {t : DT} {Q0 : Bool → Prop} (ht : t ρ Q0) {Q : Bool → Hp → Prop} (k : ∀ v H' F', Sta K F0 H0 G F' σ H' ρ → Q0 v → Q v H') : DV.lfT K t σ H Q :=
  ⟨ρ, F, Q0, s.ext.sub, s.env, ht, fun v H' F' x q => k v H' F' (s.step x) q⟩
theorem Sta.lfA {K : PySem.W.Frag} {F0 H0 G F H : Hp} {σ : St} {ρ : List Slot} (s : Sta K F0 H0 G F σ H ρ) {t : DA} {Q0 : List D → Prop} (ht : t ρ Q0) {Q : List V → Hp → Prop} (k : ∀ v H' F' d, Sta K F0 H0 G F' σ H' ρ → RpA K F' v d → Q0 d → Q v H') : DV.lfA K t σ H Q :=
  ⟨ρ, F, Q0, s.ext.sub, s.env, ht, fun v H' F' d x r q => k v H' F' d (s.step x) r q⟩
def sDrop (t : DE) : DS := fun N ρ => t ρ fun _ => N.nx ρ
def sRet (t : DE) : DS := fun N ρ => t ρ N.rt
theorem pds_ret (he : PD X e t) : PDS X (.Return (some e) pos) (sRet t) := (ps_ret he).impD fun N σ H ⟨F0, H0, G, ρ, M, ⟨F, so⟩, ht, k⟩ =>
  so.lf ht fun v H' F' d so' r q => k.rt v H' F' d so'.ext r q
def sRetN : DS := fun N _ => N.rt .non
def sIf (c : DT) (t u : DS) : DS := fun N ρ => c ρ fun b => if b = true then t N ρ else u N ρ
theorem pds_if (hc : PDT X c tA) (ha : PDSs X as u) (hb : PDSs X bs v) : PDS X (.If c as bs pos) (sIf tA u v) := (ps_if hc ha hb).impD fun N σ H ⟨F0, H0, G, ρ, M, ⟨F, so⟩, ht, k⟩ =>
  so.lfT ht fun b H' F' so' q => by
    cases b with
    | true => exact iteT ⟨F0, H0, G, ρ, M, ⟨F', so'⟩, q, k⟩
    | false => exact iteF ⟨F0, H0, G, ρ, M, ⟨F', so'⟩, q, k⟩

/-! ### targets -/
abbrev DG := D → List Slot → (List Slot → Prop) → Prop
/-- g over the heap, g' over data; vs: the slots that it may store -/
def RelG (K : PySem.W.Frag) (vs : List Nat) (g : TG) (g' : DG) : Prop := ∀ (F0 H0 G F H : Hp) (σ : St) (ρ : List Slot) (x : V) (d : D) (Q0 : List Slot → Prop) (Q : St → Hp → Prop), Sta K F0 H0 G F σ H ρ → Rp K F x d → g' d ρ Q0 →
  (∀ σ' ρ', Sta K F0 H0 G F σ' H ρ' → wipe σ' vs = wipe σ vs → Q0 ρ' → Q σ' H) → g x σ H Q
def RelGs (K : PySem.W.Frag) (vs : List Nat) (g : TGs) (g' : List D → List Slot → (List Slot → Prop) → Prop) : Prop := ∀ (F0 H0 G F H : Hp) (σ : St) (ρ : List Slot) (x : List V) (d : List D) (Q0 : List Slot → Prop) (Q : St → Hp → Prop), Sta K F0 H0 G F σ H ρ → RpA K F x d → g' d ρ Q0 →
  (∀ σ' ρ', Sta K F0 H0 G F σ' H ρ' → wipe σ' vs = wipe σ vs → Q0 ρ' → Q σ' H) → g x σ H Q
def gN (i : Nat) : DG := fun d ρ Q => Q (ρ.set i (.v d))
def gsNil : List D → List Slot → (List Slot → Prop) → Prop := fun ds ρ Q => ds = [] ∧ Q ρ
def gsCons (g : DG) (gs : List D → List Slot → (List Slot → Prop) → Prop) : List D → List Slot → (List Slot → Prop) → Prop := fun ds ρ Q => match ds with
  | [] => False
  | d :: r => g d ρ fun ρ' => gs r ρ' Q
def gT (n : Nat) (gs : List D → List Slot → (List Slot → Prop) → Prop) : DG := fun d ρ Q => match d with
  | .tup ds => ds.length = n ∧ gs ds ρ Q
  | _ => False
theorem wipe_at : ∀ {vs : List Nat} {σ : St} {i : Nat} {x : Option V}, i ∈ vs → wipe (σ.set i x) vs = wipe σ vs
  | [], _, _, _, h => by cases h
  | v :: r, σ, i, x, h => by
    have comm : ∀ (r : List Nat) (σ : St) (i : Nat) (x : Option V), i ∉ r → wipe (σ.set i x) r = (wipe σ r).set i x := by
      intro r
      induction r with
      | nil => intro σ i x _; rfl
      | cons w q ih =>
        intro σ i x hn
        show (wipe (σ.set i x) q).set w none = ((wipe σ q).set w none).set i x
        rw [ih σ i x (fun z => hn (List.mem_cons_of_mem _ z)), List.set_comm _ _ (fun z => hn (by rw [z]; exact List.mem_cons_self))]
    show (wipe (σ.set i x) r).set v none = (wipe σ r).set v none
    by_cases hr : i ∈ r
    · rw [wipe_at hr]
    · have e : i = v := (List.mem_cons.mp h).resolve_right hr
      subst e
      rw [comm r σ i x hr, List.set_set]
theorem rg_nm {K : PySem.W.Frag} {vs : List Nat} {i : Nat} (h : i ∈ vs) : RelG K vs (gName i) (gN i) := fun F0 H0 G F H σ ρ x d Q0 Q s r q k => k _ _ (s.set i r) (wipe_at h) q
theorem rg_nil {K : PySem.W.Frag} {vs : List Nat} : RelGs K vs gNil gsNil := fun F0 H0 G F H σ ρ x d Q0 Q s r q k => by
  obtain ⟨rfl, q⟩ := q
  cases r
  exact ⟨rfl, k _ _ s rfl q⟩
theorem rg_cons {K : PySem.W.Frag} {vs : List Nat} {g : TG} {g' : DG} {gs gs'} (h : RelG K vs g g') (hs : RelGs K vs gs gs') : RelGs K vs (gCons g gs) (gsCons g' gs') := fun F0 H0 G F H σ ρ x d Q0 Q s r q k => by
  cases r with
  | nil => exact q.elim
  | cons r1 r2 => exact ⟨_, _, rfl, h _ _ _ _ _ _ _ _ _ _ _ s r1 q fun σ' ρ' s' w q' => hs _ _ _ _ _ _ _ _ _ _ _ s' r2 q' fun σ2 ρ2 s2 w2 q2 => k σ2 ρ2 s2 (w2.trans w) q2⟩
theorem rg_tup {K : PySem.W.Frag} {vs : List Nat} {n : Nat} {gs gs'} (hs : RelGs K vs gs gs') : RelG K vs (gTup K n gs) (gT n gs') := fun F0 H0 G F H σ ρ x d Q0 Q s r q k => by
  cases d <;> first | exact q.elim | skip
  cases r with
  | tup h ra => exact ⟨_, _, rfl, s.ext.sub.seqT h, by rw [ra.length]; exact q.1, hs _ _ _ _ _ _ _ _ _ _ _ s ra q.2 k⟩
def sAsg (t : DE) (g : DG) : DS := fun N ρ => t ρ fun d => g d ρ N.nx
theorem pds_asg {tg : Expr} {g : TG} {g' : DG} {vs : List Nat} (hG : RelG X.K vs g g') (he : PD X e t) (hg : PG X tg g) (hs : swapsWithSole [tg] e pos.line X.env = pure false := by rfl) (hw : swappedStores [tg] e X.env = pure none := by rfl)
    (h1 : (assignEach [tg] X.env).map (·.2) = [assign tg X.env] := by rfl) : PDS X (.Assign [tg] e pos) (sAsg t g') := (ps_asg he hg hs hw h1).impD fun N σ H ⟨F0, H0, G, ρ, M, ⟨F, so⟩, ht, k⟩ =>
  so.lf ht fun v H' F' d so' r q => hG _ _ _ _ _ _ _ _ _ _ _ so' r q fun σ' ρ' s' _ q' => k.nx σ' H' ρ' ⟨F', s'⟩ q'
def sSet (i : Nat) (t : DE) : DS := fun N ρ => t ρ fun d => N.nx (ρ.set i (.v d))
theorem pds_set {i : Nat} {x : Str} {pos' : Pos} (hN : X.N.Nodup) (hi : X.N[i]? = some x) (hx : Loc X.env.scope x) (he : PD X e t) (hs : swapsWith e (some (.Name x pos')) pos.line X.env = pure false := by rfl)
    (hf : X.fn x = true ∨ X.env.scope.names.lookup x = some .local := by first | exact .inl rfl | exact .inr rfl | assumption) : PDS X (.Assign [.Name x pos'] e pos) (sSet i t) := (ps_set hN hi hx he hs hf).impD fun N σ H ⟨F0, H0, G, ρ, M, ⟨F, so⟩, ht, k⟩ =>
  so.lf ht fun v H' F' d so' r q => k.nx _ H' _ ⟨F', so'.set i r⟩ q
def sPar (i j : Nat) (t : DA) : DS := fun N ρ => t ρ fun ds => match ds with
  | [d, e] => N.nx ((ρ.set i (.v d)).set j (.v e))
  | _ => False
theorem pds_par {i j : Nat} {x y : Str} {px py pt : Pos} {kt k2 pt2} (hc : X.calm = true) (hN : X.N.Nodup) (hi : X.N[i]? = some x) (hj : X.N[j]? = some y) (hij : i ≠ j)
    (hx : X.env.scope.names.lookup x = some .local) (hy : X.env.scope.names.lookup y = some .local) (ha : PDA X [a, b] tr)
    (hw : swappedStores [.Tuple [.Name x px, .Name y py] kt pt] (.Tuple [a, b] k2 pt2) X.env = pure (some [x, y]))
    (hs : swapsWithSole [.Tuple [.Name x px, .Name y py] kt pt] (.Tuple [a, b] k2 pt2) pos.line X.env = pure false := by rfl) :
    PDS X (.Assign [.Tuple [.Name x px, .Name y py] kt pt] (.Tuple [a, b] k2 pt2) pos) (sPar i j tr) := (ps_par hc hN hi hj hij hx hy ha hw hs).impD fun N σ H ⟨F0, H0, G, ρ, M, ⟨F, so⟩, ht, k⟩ =>
  so.lfA ht fun vs H' F' ds so' r q => by
    cases r with
    | nil => exact q.elim
    | cons r1 r2 =>
      cases r2 with
      | nil => exact q.elim
      | cons r2 r3 =>
        cases r3 with
        | nil => exact ⟨_, _, rfl, k.nx _ H' _ ⟨F', (so'.set i r1).set j r2⟩ q⟩
        | cons _ _ => exact q.elim

def sPar3 (i j l : Nat) (t : DA) : DS := fun N ρ => t ρ fun ds => match ds with
  | [d, e, f] => N.nx (((ρ.set i (.v d)).set j (.v e)).set l (.v f))
  | _ => False
/-! ### what is walked -/
abbrev DI := List Slot → (List D → Prop) → Prop
def ItOk (K : PySem.W.Frag) (J : It) (F : Hp) (ds : List D) : Prop := ∀ F' H', Same F F' → Sub F' H' → ∀ i,
  (i < ds.length → J.go i H' ∧ ∀ x H'', J.yld i H' x H'' → ∃ F'' d, Ext F' H' F'' H'' ∧ ds[i]? = some d ∧ Rp K F'' x d) ∧ (ds.length ≤ i → J.stop i H')
def lfI (K : PySem.W.Frag) (t : DI) : TI := fun σ H R => ∃ ρ F Q0, Sub F H ∧ EnvOk K F H σ ρ ∧ t ρ Q0 ∧ ∀ J H' F' ds, Ext F H F' H' → ItOk K J F' ds → Q0 ds → R J H'
abbrev PDI (X : Cx) (tg e : Expr) (t : DI) : Prop := PI X tg e (lfI X.K t)
theorem _root_.L2.PI.impD {tg e : Expr} {t t' : TI} (h : PI X tg e t) (i : ∀ σ H Q, t' σ H Q → t σ H Q) : PI X tg e t' := ⟨fun p s σ H Q I q => h.run p s σ H Q I (i _ _ _ q)⟩
theorem it_seq {K : PySem.W.Frag} {J : It} {F : Hp} {ds : List D} {xs : List V} {Sq : Hp → List V → Prop} (ra : RpA K F xs ds) (hS : ∀ F' H', Same F F' → Sub F' H' → Sq H' xs) (hg : ∀ i H, (∃ ys y, Sq H ys ∧ ys[i]? = some y) → J.go i H)
    (hy : ∀ i H x H', J.yld i H x H' → H' = H ∧ ∀ ys, Sq H ys → ys[i]? = some x) (hs : ∀ i H, (∃ ys, Sq H ys ∧ ys.length ≤ i) → J.stop i H) : ItOk K J F ds := fun F' H' m s' i => by
  refine ⟨fun hi => ?_, fun hi => hs _ _ ⟨xs, hS _ _ m s', by rw [ra.length]; exact hi⟩⟩
  have hl : i < xs.length := by rw [ra.length]; exact hi
  refine ⟨hg _ _ ⟨xs, _, hS _ _ m s', List.getElem?_eq_getElem hl⟩, fun x H'' hyy => ?_⟩
  obtain ⟨e1, e2⟩ := hy _ _ _ _ hyy
  obtain ⟨v, ev, rv⟩ := ra.get (List.getElem?_eq_getElem hi)
  have ex := e2 xs (hS _ _ m s')
  rw [ev] at ex; cases ex
  subst e1
  exact ⟨F', _, .refl s', List.getElem?_eq_getElem hi, rv.mono m⟩
theorem pi_seq {tg l : Expr} {tl : TE} (hl : PE X l tl) : PI X tg l (fun σ H R => tl σ H fun x H1 => ∃ a, x = .ref a ∧ (((∃ xs, SqL X.K H1 a xs) ∧ R (Itl X.K a) H1) ∨ ((∃ xs, SqT X.K H1 a xs) ∧ R (Itt X.K a) H1))) := by
  refine ⟨fun pins s σ H R I h => ?_⟩
  refine thn (hl.run pins s σ H _ I h) fun v s1 ⟨x, H1, I1, r1, q1⟩ => ?_
  obtain ⟨a, e, q1⟩ := q1
  subst e
  cases r1
  rcases q1 with ⟨⟨xs, hq⟩, q⟩ | ⟨⟨xs, hq⟩, q⟩
  · obtain ⟨its, rv, p, hz⟩ := I1.list hq
    refine wpAny_pyIter_list p.isList ?_
    refine ⟨s1.heap.objs.size, [s1.heap.objs.size], _, _, H1, rfl, I1.kept (t' := s1.toks) fun b o e => Heap.get?_push_of_some _ e, turn_list a _, ⟨_, Heap.get?_push_size _ rfl, rfl, rfl⟩, fun b hb => ?_, q⟩
    have e : b = s1.heap.objs.size := by simpa using hb
    subst e
    exact I1.fpOk (Nat.le_refl _) (I1.hok.fresh (Nat.le_refl _))
  · obtain ⟨its, rv, p, hz⟩ := I1.tuple hq
    refine wpAny_pyIter_tuple (show s1.heap.IsTuple a its.toArray from p) ?_
    refine ⟨s1.heap.objs.size, [s1.heap.objs.size], _, _, H1, rfl, I1.kept (t' := s1.toks) fun b o e => Heap.get?_push_of_some _ e, turn_tuple a _, ⟨_, Heap.get?_push_size _ rfl, rfl, rfl⟩, fun b hb => ?_, q⟩
    have e : b = s1.heap.objs.size := by simpa using hb
    subst e
    exact I1.fpOk (Nat.le_refl _) (I1.hok.fresh (Nat.le_refl _))
def iSeq (t : DE) : DI := fun ρ Q => t ρ fun d => match d with
  | .lst ds => Q ds
  | .tup ds => Q ds
  | _ => False
theorem pdi_seq {tg : Expr} (h : PD X e t) : PDI X tg e (iSeq t) := PI.impD (pi_seq h) fun σ H R ⟨ρ, F, Q0, s, en, ht, k⟩ =>
  ⟨ρ, F, _, s, en, ht, fun v H1 F1 d x1 r q => by
    cases d <;> first | exact q.elim | skip
    · cases r with
      | tup h1 ra => exact ⟨_, rfl, .inr ⟨⟨_, x1.sub.seqT h1⟩, k _ H1 F1 _ x1 (it_seq (Sq := fun H ys => SqT X.K H _ ys) ra (fun F' H' m s' => s'.seqT (SqT.same m h1)) (fun _ _ z => z) (fun _ _ _ _ z => z) (fun _ _ z => z)) q⟩⟩
    · cases r with
      | lst h1 ra => exact ⟨_, rfl, .inl ⟨⟨_, .of (x1.sub.lst h1)⟩, k _ H1 F1 _ x1 (it_seq (Sq := fun H ys => SqL X.K H _ ys) ra (fun F' H' m s' => .of (s'.lst (m _ _ h1))) (fun _ _ z => z) (fun _ _ _ _ z => z) (fun _ _ z => z)) q⟩⟩⟩
def rngD (lo : Int) (n : Nat) : List D := (List.range n).map fun (k : Nat) => D.int (lo + (k : Int))
theorem it_rng {K : PySem.W.Frag} {F : Hp} {lo : Int} {n : Nat} : ItOk K (Itr lo n) F (rngD lo n) := fun F' H' m s i => by
  have hl : (rngD lo n).length = n := by simp [rngD]
  rw [hl]
  refine ⟨fun hi => ⟨hi, fun x H'' hy => ?_⟩, fun hi => hi⟩
  obtain ⟨rfl, rfl⟩ := hy
  exact ⟨F', _, .refl s, by simp [rngD, hi], .int _⟩
def iRng1D (t : DA) : DI := fun ρ Q => t ρ fun ds => match ds with
  | [.int j] => (-(2 ^ 62) ≤ j ∧ j < 2 ^ 62) ∧ Q (rngD 0 j.toNat)
  | _ => False
def iRng2D (t : DA) : DI := fun ρ Q => t ρ fun ds => match ds with
  | [.int i, .int j] => (-(2 ^ 62) ≤ i ∧ i < 2 ^ 62 ∧ -(2 ^ 62) ≤ j ∧ j < 2 ^ 62) ∧ Q (rngD i (j - i).toNat)
  | _ => False
theorem pdi_range1 {tg : Expr} {p : Pos} (hm : X.mg "range" = none) (ha : PDA X [a] tr) (hg : Gl X "range" := by rfl) (hs : starEach [a] X.env = [(false, eval a X.env)] := by rfl) : PDI X tg (.Call (.Name "range" p) [a] [] pos) (iRng1D tr) := PI.impD (pi_range1 hg hm ha hs) fun σ H R ⟨ρ, F, Q0, s, en, ht, k⟩ =>
  ⟨ρ, F, _, s, en, ht, fun vs H1 F1 ds x1 r q => by
    cases r with
    | nil => exact q.elim
    | cons r1 r2 =>
      cases r2 with
      | cons _ _ => cases r1 <;> exact q.elim
      | nil =>
        cases r1 <;> first | exact q.elim | skip
        exact ⟨_, rfl, q.1.1, q.1.2, k _ H1 F1 _ x1 it_rng q.2⟩⟩
/-- for over data -/
def forD (g : DG) (b : DS) (N : DN) : List D → List Slot → Prop
  | [], ρ => N.nx ρ
  | d :: ds, ρ => g d ρ fun ρ' => b { N with nx := forD g b N ds, ct := forD g b N ds, bk := N.nx } ρ'
def sFor (it : DI) (g : DG) (b : DS) : DS := fun N ρ => it ρ fun ds => forD g b N ds ρ
theorem drop_cons {α : Type} : ∀ {l : List α} {i : Nat} {d : α}, l[i]? = some d → l.drop i = d :: l.drop (i + 1)
  | [], i, d, h => by simp at h
  | a :: l, 0, d, h => by simp at h; subst h; rfl
  | a :: l, i + 1, d, h => by
    have := drop_cons (l := l) (i := i) (d := d) (by simpa using h)
    simpa using this
theorem Sta.pinned {K : PySem.W.Frag} {F0 H0 G F H : Hp} {σ : St} {ρ : List Slot} (s : Sta K F0 H0 G F σ H ρ) {G' : Hp} (h : Same G' F) : Sta K F0 H0 G' F σ H ρ := ⟨s.bse, h, s.ext, s.env, s.own⟩
theorem pds_for {iter tg : Expr} {body : List Stmt} {it : DI} {g : TG} {g' : DG} {vs : List Nat} (hG : RelG X.K vs g g') (hp : PassesOwn (model X.prog X.w) X.A X.env X.xe) (hc : X.calm = true) (hi : PDI X tg iter it) (hg : PG X tg g) (hb : PDSs X body u)
    (hs : ∀ x, foldedSetIterable iter X.env x = pure x := by intro _; rfl) : PDS X (.For tg iter body [] pos) (sFor it g' u) := (ps_for hp hc hi hg hb hs).impD fun N σ H ⟨F0, H0, G, ρ, M, ⟨F, so⟩, ht, k⟩ => by
  refine ⟨ρ, F, _, so.ext.sub, so.env, ht, fun J H1 F1 ds x1 io q => ?_⟩
  have g1 : Same G F1 := so.pin.trans x1.mono
  refine ⟨fun i m σ' H' => m = ds.length - i ∧ i ≤ ds.length ∧ ∃ ρ', StOk X.K F0 H0 F1 σ' H' ρ' ∧ forD g' u M (ds.drop i) ρ', ⟨ds.length, rfl, Nat.zero_le _, ρ, ⟨F1, (so.step x1).pinned (Same.refl _)⟩, q⟩, fun i m σ' H' hW => ?_⟩
  obtain ⟨rfl, hle, ρ', ⟨F', so'⟩, q'⟩ := hW
  obtain ⟨h1, h2⟩ := io F' H' so'.pin so'.ext.sub i
  have out : ∀ {σ2 H2 ρ2}, StOk X.K F0 H0 F1 σ2 H2 ρ2 → StOk X.K F0 H0 G σ2 H2 ρ2 := fun ⟨F2, s2⟩ => ⟨F2, s2.pinned (g1.trans s2.pin)⟩
  by_cases hi : i < ds.length
  · obtain ⟨go, hy⟩ := h1 hi
    refine .inr ⟨go, fun σ2 H2 => ∃ ρ2, StOk X.K F0 H0 F1 σ2 H2 ρ2 ∧ forD g' u M (ds.drop (i + 1)) ρ2, fun σ2 H2 ⟨ρ2, s2, q2⟩ => ⟨ds.length - (i + 1), by omega, rfl, hi, ρ2, s2, q2⟩, fun x H2 hyx => ?_⟩
    obtain ⟨F2, d, x2, ed, rd⟩ := hy x H2 hyx
    rw [drop_cons ed] at q'
    have so2 := so'.step x2
    refine hG _ _ _ _ _ _ _ _ _ _ _ so2 rd q' fun σ3 ρ3 s3 _ q3 => ?_
    exact ⟨F0, H0, F1, ρ3, _, ⟨F2, s3⟩, q3, fun σ4 H4 ρ4 s4 q4 => ⟨ρ4, s4, q4⟩, k.rt, k.ro, fun σ4 H4 ρ4 s4 q4 => k.nx _ _ _ (out s4) q4, fun σ4 H4 ρ4 s4 q4 => ⟨ρ4, s4, q4⟩⟩
  · exact .inl ⟨h2 (by omega), by
      have e : ds.drop i = [] := List.drop_eq_nil_of_le (by omega)
      rw [e] at q'
      exact k.nx _ _ _ (out ⟨F', so'⟩) q'⟩
def sWhile (c : DT) (b : DS) : DS := fun N ρ => ∃ I : Nat → List Slot → Prop, (∃ m, I m ρ) ∧ ∀ m ρ, I m ρ → c ρ fun k =>
  if k = true then b { N with nx := fun ρ' => ∃ m', m' < m ∧ I m' ρ', ct := fun ρ' => ∃ m', m' < m ∧ I m' ρ', bk := N.nx } ρ else N.nx ρ
theorem pds_while {body : List Stmt} (hp : PassesOwn (model X.prog X.w) X.A X.env X.xe) (hc : PDT X c tA) (hb : PDSs X body u) : PDS X (.While c body [] pos) (sWhile tA u) := (ps_while hp hc hb).impD fun N σ H ⟨F0, H0, G, ρ, M, so, ⟨I, ⟨m, hm⟩, ht⟩, k⟩ => by
  refine ⟨fun m σ' H' => ∃ ρ', StOk X.K F0 H0 G σ' H' ρ' ∧ I m ρ', ⟨m, ρ, so, hm⟩, fun m σ' H' ⟨ρ', ⟨F', s'⟩, hI⟩ => ?_⟩
  refine s'.lfT (ht m ρ' hI) fun b H2 F2 s2 q => ?_
  cases b with
  | true =>
    refine iteT ⟨fun σ2 H2 => ∃ ρ2, StOk X.K F0 H0 G σ2 H2 ρ2 ∧ ∃ m', m' < m ∧ I m' ρ2, fun σ2 H2 ⟨ρ2, s3, m', hm', hI'⟩ => ⟨m', hm', ρ2, s3, hI'⟩, F0, H0, G, ρ', _, ⟨F2, s2⟩, q, fun σ4 H4 ρ4 s4 q4 => ⟨ρ4, s4, q4⟩, k.rt, k.ro, fun σ4 H4 ρ4 s4 q4 => k.nx _ _ _ s4 q4, fun σ4 H4 ρ4 s4 q4 => ⟨ρ4, s4, q4⟩⟩
  | false => exact iteF (k.nx _ _ _ ⟨F2, s2⟩ q)

/-! ### lists of one's own -/
theorem Sta.setOwn {K : PySem.W.Frag} {F0 H0 G F H : Hp} {σ : St} {ρ : List Slot} (s : Sta K F0 H0 G F σ H ρ) (i : Nat) {p : Addr} {xs : List V} {ds : List D} (hp : H p = none) (r : RpA K F xs ds) : Sta K F0 H0 G F (σ.set i (some (.ref p))) (upd H p (.lst xs)) (ρ.set i (.own (.lst ds))) := by
  have x : Ext F H F (upd H p (.lst xs)) := Ext.newO s.ext.sub hp
  have h0 : H0 p = none := by
    cases e : H0 p with
    | none => rfl
    | some o =>
      cases f : F0 p with
      | none =>
        have := (s.ext.keep p o f e).1
        rw [hp] at this; cases this
      | some o' =>
        obtain ⟨u, q⟩ := (s.ext.sub p o' (s.ext.mono p o' f)).there
        rw [hp] at q; cases q
  have en := s.env.mono x
  refine ⟨s.bse, s.pin, s.ext.trans x, ⟨by simp [en.len], fun j sl e => ?_, fun a b q d e hab h1 h2 h3 h4 => ?_⟩, fun j q d h1 h2 => ?_⟩
  · by_cases hj : j = i
    · subst hj
      have hl : j < ρ.length := by
        have := (List.getElem?_eq_some_iff.mp e).1
        simpa using this
      rw [List.getElem?_set_self hl] at e
      cases e
      exact ⟨_, by rw [List.getElem?_set_self (by rw [en.len]; exact hl)], p, rfl, s.ext.sub.none hp, xs, upd_same, r⟩
    · rw [List.getElem?_set_ne (Ne.symm hj)] at e ⊢
      exact en.at_ j sl e
  · have old : ∀ {j : Nat} {q : Addr} {d : D}, j ≠ i → (σ.set i (some (V.ref p)))[j]? = some (some (.ref q)) → (ρ.set i (Slot.own (.lst ds)))[j]? = some (Slot.own d) → q ≠ p := fun {j q d} hj h1 h2 z => by
      rw [List.getElem?_set_ne (Ne.symm hj)] at h1 h2
      obtain ⟨x, e1, p', e2, _, o⟩ := s.env.at_ j _ h2
      rw [h1] at e1; cases e1; cases e2
      obtain ⟨u, hu⟩ := o.there
      rw [z, hp] at hu; cases hu
    have self : ∀ {q : Addr}, (σ.set i (some (V.ref p)))[i]? = some (some (.ref q)) → q = p := fun {q} h => by
      have hl : i < (σ.set i (some (V.ref p))).length := (List.getElem?_eq_some_iff.mp h).1
      rw [List.getElem?_set_self (by simpa using hl)] at h
      cases h; rfl
    by_cases ha : a = i
    · subst ha
      have e1 := self h1
      exact old (Ne.symm hab) h3 h4 e1
    · by_cases hb : b = i
      · subst hb
        exact old ha h1 h2 (self h3)
      · rw [List.getElem?_set_ne (Ne.symm ha)] at h1 h2
        rw [List.getElem?_set_ne (Ne.symm hb)] at h3 h4
        exact s.env.sep a b q d e hab h1 h2 h3 h4
  · by_cases hj : j = i
    · subst hj
      have hl : j < (σ.set j (some (V.ref p))).length := (List.getElem?_eq_some_iff.mp h1).1
      rw [List.getElem?_set_self (by simpa using hl)] at h1
      cases h1
      exact h0
    · rw [List.getElem?_set_ne (Ne.symm hj)] at h1 h2
      exact s.own j q d h1 h2
/-- x = [..], x to grow -/
def sOwn (i : Nat) (t : DA) : DS := fun N ρ => t ρ fun ds => ds.length ≤ sizeLine ∧ N.nx (ρ.set i (.own (.lst ds)))
theorem pds_own {i : Nat} {x : Str} {pos' p2 : Pos} (hN : X.N.Nodup) (hi : X.N[i]? = some x) (hx : Loc X.env.scope x) (he : PDA X es tr) (hs : swapsWith (.List es p2) (some (.Name x pos')) pos.line X.env = pure false := by rfl)
    (hf : X.fn x = true ∨ X.env.scope.names.lookup x = some .local := by first | exact .inl rfl | exact .inr rfl | assumption) : PDS X (.Assign [.Name x pos'] (.List es p2) pos) (sOwn i tr) := (ps_set hN hi hx (pe_lst he) hs hf).impD fun N σ H ⟨F0, H0, G, ρ, M, ⟨F, so⟩, ht, k⟩ =>
  so.lfA ht fun vs H' F' ds so' r q => ⟨by rw [r.length]; exact q.1, fun p hp => k.nx _ _ _ ⟨F', so'.setOwn i hp r⟩ q.2⟩
/-- an own list is changed -/
theorem Sta.putOwn {K : PySem.W.Frag} {F0 H0 G F H : Hp} {σ : St} {ρ : List Slot} (s : Sta K F0 H0 G F σ H ρ) {i : Nat} {p : Addr} {d : D} {xs : List V} {ds : List D} (h1 : σ[i]? = some (some (.ref p))) (h2 : ρ[i]? = some (.own d)) (r : RpA K F xs ds) :
    Sta K F0 H0 G F σ (upd H p (.lst xs)) (ρ.set i (.own (.lst ds))) := by
  obtain ⟨x, e1, p', e2, hF, o⟩ := s.env.at_ i _ h2
  rw [h1] at e1; cases e1; cases e2
  have h0 := s.own i p d h1 h2
  have hl : i < ρ.length := (List.getElem?_eq_some_iff.mp h2).1
  refine ⟨s.bse, s.pin, ⟨s.ext.mono, fun a o' e q => ?_, Ext.own s.ext.sub hF⟩, ⟨by simp [s.env.len], fun j sl e => ?_, fun a b q d' e' hab a1 a2 a3 a4 => ?_⟩, fun j q d' a1 a2 => ?_⟩
  · rw [upd_ne (ne_of_none q h0)]
    exact s.ext.keep a o' e q
  · by_cases hj : j = i
    · subst hj
      rw [List.getElem?_set_self hl] at e
      cases e
      exact ⟨_, h1, p, rfl, hF, xs, upd_same, r⟩
    · rw [List.getElem?_set_ne (Ne.symm hj)] at e
      obtain ⟨x, e1, ok⟩ := s.env.at_ j sl e
      refine ⟨x, e1, ?_⟩
      cases sl with
      | un => trivial
      | v d => exact ok
      | tg u d => exact ok
      | tb T => exact ok
      | own d' =>
        obtain ⟨p2, e2, hF2, o2⟩ := ok
        refine ⟨p2, e2, hF2, o2.mono (Same.refl F) fun u q => ?_⟩
        have : p2 ≠ p := fun z => by
          subst z
          exact s.env.sep j i p2 d' d hj (by rw [e1, e2]) e h1 h2
        rw [upd_ne this]; exact q
  · have own : ∀ {j : Nat} {d : D}, (ρ.set i (Slot.own (.lst ds)))[j]? = some (.own d) → ∃ d', ρ[j]? = some (Slot.own d') := fun {j d} h => by
      by_cases hj : j = i
      · exact ⟨_, by rw [hj]; exact h2⟩
      · rw [List.getElem?_set_ne (Ne.symm hj)] at h
        exact ⟨_, h⟩
    obtain ⟨d1, b2⟩ := own a2
    obtain ⟨d2, b4⟩ := own a4
    exact s.env.sep a b q d1 d2 hab a1 b2 a3 b4
  · by_cases hj : j = i
    · subst hj
      rw [h1] at a1; cases a1
      exact h0
    · rw [List.getElem?_set_ne (Ne.symm hj)] at a2
      exact s.own j q d' a1 a2
/-- x.append(e), x a list of one's own -/
def sAppend (i : Nat) (t : DE) : DS := fun N ρ => match ρ[i]? with
  | some (.own (.lst ds)) => t ρ fun d => ds.length < sizeLine ∧ N.nx (ρ.set i (.own (.lst (ds ++ [d]))))
  | _ => False
theorem pds_append {i : Nat} {o : Expr} {apos cpos : Pos} (h : PE X (.Call (.Attribute o "append" apos) [e] [] cpos) (tBM X.K "list" rAppend (tVar i) (tCons (lfE X.K t) tNil)))
    (hs : swapsWith (.Call (.Attribute o "append" apos) [e] [] cpos) none pos.line X.env = pure false := by rfl) : PDS X (.Expr (.Call (.Attribute o "append" apos) [e] [] cpos) pos) (sAppend i t) :=
  (ps_expr h hs).impD fun N σ H ⟨F0, H0, G, ρ, M, ⟨F, so⟩, ht, k⟩ => by
    unfold sAppend at ht
    cases hi : ρ[i]? with
    | none => rw [hi] at ht; exact ht.elim
    | some sl =>
      rw [hi] at ht
      cases sl with
      | un => exact ht.elim
      | v d => exact ht.elim
      | tg u d => exact ht.elim
      | tb T => exact ht.elim
      | own d =>
        cases d <;> first | exact ht.elim | skip
        rename_i ds
        obtain ⟨x, e1, p, e2, hF, xs, hp, r⟩ := so.env.at_ i _ hi
        subst e2
        refine ⟨_, e1, .inl ⟨rfl, _, .inl (.inl hp)⟩, so.lf ht fun v H' F' d so' rv q => ?_⟩
        obtain ⟨x, e3, p', e4, hF', xs', hp', r'⟩ := so'.env.at_ i _ hi
        rw [e1] at e3; cases e3; cases e4
        refine ⟨p, xs', v, rfl, rfl, hp', by rw [r'.length]; exact q.1, ?_⟩
        exact k.nx _ _ _ ⟨F', so'.putOwn e1 hi (r'.append (.cons rv .nil))⟩ q.2
end
end DV

namespace DV
open PySem PySem.Spec PyProof.Rows L2

/-! ### defs and their calls -/
def spD (K : PySem.W.Frag) (f : DSp) : Sp := fun vs H Q _ => ∃ F ds Q0, Sub F H ∧ RpA K F vs ds ∧ f ds Q0 ∧ ∀ v H' F' d, Ext F H F' H' → Rp K F' v d → Q0 d → Q v H'
def isLst : D → Bool
  | .lst _ => true
  | _ => false
def roL (Q : D → Prop) (d : D) : Prop := isLst d = true ∧ Q d
/-- a def of m parameters, n names -/
def fnD (n m : Nat) (t : DS) : DSp := fun ds Q => ds.length = m ∧ t ⟨fun _ => Q .non, Q, fun _ => False, fun _ => False, roL Q⟩ (ds.map Slot.v ++ List.replicate (n - m) Slot.un)
theorem env_start {K : PySem.W.Frag} {F H : Hp} {N : List Str} {vs : List V} {ds : List D} (r : RpA K F vs ds) : EnvOk K F H (L2.start N vs) (ds.map Slot.v ++ List.replicate (N.length - ds.length) Slot.un) := by
  have hl := r.length
  have get : ∀ (i : Nat) s, (ds.map Slot.v ++ List.replicate (N.length - ds.length) Slot.un)[i]? = some s → (∃ d, ds[i]? = some d ∧ s = .v d) ∨ s = .un := fun i s e => by
    by_cases hi : i < ds.length
    · rw [List.getElem?_append_left (by simpa using hi), List.getElem?_map] at e
      obtain ⟨d, e1, e2⟩ := Option.map_eq_some_iff.mp e
      exact .inl ⟨d, e1, e2.symm⟩
    · rw [List.getElem?_append_right (by simp; omega)] at e
      exact .inr (List.mem_replicate.mp (List.mem_of_getElem? e)).2
  refine ⟨by simp [L2.start, hl], fun i s e => ?_, fun i j p d e hij h1 h2 h3 h4 => ?_⟩
  · have hi : i < (L2.start N vs).length := by
      have := (List.getElem?_eq_some_iff.mp e).1
      simp [L2.start] at this ⊢
      omega
    refine ⟨_, List.getElem?_eq_getElem hi, ?_⟩
    rcases get i s e with ⟨d, e1, rfl⟩ | rfl
    · obtain ⟨v, e2, r1⟩ := r.get e1
      refine ⟨v, ?_, r1⟩
      have hv : i < vs.length := (List.getElem?_eq_some_iff.mp e2).1
      have e3 : (L2.start N vs)[i]? = some (some v) := by
        unfold L2.start
        rw [List.getElem?_append_left (by simpa using hv), List.getElem?_map, e2]
        rfl
      rw [List.getElem?_eq_getElem hi] at e3
      exact Option.some.inj e3
    · trivial
  · rcases get i _ h2 with ⟨d', _, z⟩ | z <;> cases z
section
variable {P : Program} {w : World} {K : PySem.W.Frag} {mg : Str → Option Value} {base : Heap}
theorem fn_okD {x qual : Str} {params : Arguments} {body : List Stmt} {scope : Scope} {dvs : List V} {kws : List (Str × V)} {f : Addr} {fd : FuncData} {N ps : List Str} {k : Nat} {t : DS}
    (F : FunD K x qual params body scope dvs kws f fd) (S : FnScope N ps scope)
    (hb : ∀ (cdv : Value) (A : Around) (outer : List Env) (s : Shared) (H : Hp) (E : XK), Room k (A.deeper (envOfC qual scope s.heap.objs.size f cdv)) → PDSs (cxOf CX0 P w K mg base N qual scope f cdv A outer s H E).nox body t) :
    FnOk P w K mg base CX0 (k + 1) f fd ps (spD K (fnD N.length ps.length t)) := by
  refine F.ok S (fun vs H Q E h => ?_) (fun cdv A outer s H vs Q E hr h => ⟨_, PSs.nox (hb cdv A outer s H E hr), ?_⟩)
  · obtain ⟨F, ds, Q0, _, r, h, _⟩ := h
    rw [r.length]; exact h.1
  · obtain ⟨F, ds, Q0, sb, r, h, q⟩ := h
    have en : EnvOk K F H (L2.start N vs) (ds.map Slot.v ++ List.replicate (N.length - ds.length) Slot.un) := env_start r
    rw [h.1] at en
    refine ⟨F, H, F, _, _, ⟨F, ⟨sb, Same.refl F, .refl sb, en, fun i p d h1 h2 => ?_⟩⟩, h.2, ⟨fun σ' H' ρ' ⟨F', s'⟩ z => q .non H' F' .non s'.ext .non z, fun v H' F' d x r z => q v H' F' d x r z, fun p d H' F' x h0 hF o z => (by
      cases d <;> first | (simp [roL, isLst] at z; done) | skip
      obtain ⟨xs, hp, r⟩ := o
      exact q (.ref p) H' (upd F' p (.lst xs)) _ (x.adopt h0 hF hp) (.lst upd_same (r.mono fun b o e => by rw [upd_ne (ne_of_none e hF)]; exact e)) z.2), fun _ _ _ _ z => z.elim, fun _ _ _ _ z => z.elim⟩⟩
    have hm := List.mem_of_getElem? h2
    rcases List.mem_append.mp hm with z | z
    · obtain ⟨d', _, z⟩ := List.mem_map.mp z
      cases z
    · cases (List.mem_replicate.mp z).2
end
/-- a def of the module as its callers see it: dd its defaults that are left to it -/
def Gd (P : Program) (w : World) (K : PySem.W.Frag) (mg : Str → Option Value) (base : Heap) (nm : Str) (k : Nat) (dd : List D) (f : DSp) : Prop :=
  ∃ (a : Addr) (fd : FuncData) (ps : List Str) (ds : List Value) (dvs : List V), mg nm = some (.ref a) ∧ PySem.W.keepIn K (.ref a) = true ∧ FnOk P w K mg base CX0 k a fd ps (spD K f) ∧ Binds K fd ps ds ∧ Vals dvs ds ∧ ∀ F, RpA K F dvs dd
section
variable {X : Cx} {e a b c : Expr} {es : List Expr} {t ta tb tc : DE} {tr : DA} {pos p : Pos} {nm : Str} {k : Nat} {dd : List D} {f : DSp}
def dCall (f : DSp) (dd : List D) (tr : DA) : DE := fun ρ Q => tr ρ fun ds => f (ds ++ dd) Q
theorem pd_call (G : Gd X.prog X.w X.K X.mg X.base nm k dd f) (hr : Room k X.A) (ha : PDA X (e :: es) tr) (hg : Gl X nm := by rfl) (hdb : (nm == ("__debug__" : Str)) = false := by decide)
    (he : starEach (e :: es) X.env = (false, eval e X.env) :: starEach es X.env := by rfl) (hpl : (backTo pos (starEach es X.env)).any (·.1) = false := by rfl) : PD X (.Call (.Name nm p) (e :: es) [] pos) (dCall f dd tr) := by
  obtain ⟨a, fd, ps, ds, dvs, hm, hk, F, hb, hd, hdd⟩ := G
  refine (pe_call F hr hg hm hk hb hd pass0 ha hdb he hpl).impD fun σ H Q ⟨ρ, F, Q0, s, en, ht, k⟩ => ⟨ρ, F, _, s, en, ht, fun vs H1 F1 ds x1 r q => ?_⟩
  exact ⟨F1, _, Q0, x1.sub, r.append (hdd F1), q, fun v H' F' d x2 r2 q2 => k v H' F' d (x1.trans x2) r2 q2⟩

/-! ### built-in functions -/
abbrev DF := List D → (D → Prop) → Prop
def CallD (K : PySem.W.Frag) (r : List V → Hp → VK → Prop) (g : DF) : Prop := ∀ (F H : Hp) (xs : List V) (ds : List D) (Q0 : D → Prop) (Q : VK), Sub F H → RpA K F xs ds → g ds Q0 → (∀ v H' F' d, Ext F H F' H' → Rp K F' v d → Q0 d → Q v H') → r xs H Q
def dB (g : DF) (tr : DA) : DE := fun ρ Q => tr ρ fun ds => g ds Q
theorem lf_cb {K : PySem.W.Frag} {r : List V → Hp → VK → Prop} {g : DF} (h : CallD K r g) : ∀ σ H Q, lfE K (dB g tr) σ H Q → tCB r (lfA K tr) σ H Q := fun σ H Q ⟨ρ, F, Q0, s, en, ht, k⟩ =>
  ⟨ρ, F, _, s, en, ht, fun vs H1 F1 ds x1 r q => h F1 H1 vs ds Q0 Q x1.sub r q fun v H' F' d x2 r2 q2 => k v H' F' d (x1.trans x2) r2 q2⟩
theorem pd_cb {id : String} {r : List V → Hp → VK → Prop} {g : DF} (hc : CallR X (.builtin id) r) (h : CallD X.K r g) (hm : X.mg nm = none) (hv : bootBuiltins nm = some (.builtin id)) (ha : PDA X (e :: es) tr) (hg : Gl X nm := by rfl) (hn : nm ≠ "__name__" := by decide) (hdb : (nm == ("__debug__" : Str)) = false := by decide)
    (he : starEach (e :: es) X.env = (false, eval e X.env) :: starEach es X.env := by rfl) (hpl : (backTo pos (starEach es X.env)).any (·.1) = false := by rfl) : PD X (.Call (.Name nm p) (e :: es) [] pos) (dB g tr) := by
  refine PE.impD (t := tCB r (lfA X.K tr)) ?_ (lf_cb h)
  exact pe_callB hc hg hm hv ha hn hdb he hpl
theorem pd_ct {T : String} {r : List V → Hp → VK → Prop} {g : DF} (hc : CallR X (.type T) r) (h : CallD X.K r g) (hm : X.mg nm = none) (hv : bootBuiltins nm = some (.type T)) (ha : PDA X (e :: es) tr) (hg : Gl X nm := by rfl) (hn : nm ≠ "__name__" := by decide) (hdb : (nm == ("__debug__" : Str)) = false := by decide)
    (he : starEach (e :: es) X.env = (false, eval e X.env) :: starEach es X.env := by rfl) (hpl : (backTo pos (starEach es X.env)).any (·.1) = false := by rfl) : PD X (.Call (.Name nm p) (e :: es) [] pos) (dB g tr) := by
  refine PE.impD (t := tCB r (lfA X.K tr)) ?_ (lf_cb h)
  exact pe_callTy hc hg hm hv ha hn hdb he hpl
def absD : DF
  | [.int i], Q => Q (.int (if i < 0 then -i else i))
  | _, _ => False
theorem cd_abs {K : PySem.W.Frag} : CallD K (fun xs H Q => ∃ i, xs = [.int i] ∧ Q (.int (if i < 0 then -i else i)) H) absD := fun F H xs ds Q0 Q s r q k => by
  cases r with
  | nil => exact q.elim
  | cons r1 r2 => cases r2 with
    | cons _ _ => cases r1 <;> exact q.elim
    | nil =>
      cases r1 <;> first | exact q.elim | skip
      exact ⟨_, rfl, k _ H F _ (.refl s) (.int _) q⟩
def intC : DF
  | [.int i], Q => Q (.int i)
  | [.bl b], Q => Q (.int (if b then 1 else 0))
  | _, _ => False
theorem cd_int {K : PySem.W.Frag} : CallD K (fun xs H Q => (∃ i, xs = [.int i] ∧ Q (.int i) H) ∨ ∃ k, xs = [.bl k] ∧ Q (.int (if k then 1 else 0)) H) intC := fun F H xs ds Q0 Q s r q k => by
  cases r with
  | nil => exact q.elim
  | cons r1 r2 => cases r2 with
    | cons _ _ => cases r1 <;> exact q.elim
    | nil =>
      cases r1 <;> first | exact q.elim | skip
      · exact .inr ⟨_, rfl, k _ H F _ (.refl s) (.int _) q⟩
      · exact .inl ⟨_, rfl, k _ H F _ (.refl s) (.int _) q⟩
def lenD : DF
  | [.lst ds], Q => Q (.int ds.length)
  | [.tup ds], Q => Q (.int ds.length)
  | [.str x], Q => x.length ≤ sizeLine ∧ Q (.int x.length)
  | _, _ => False
theorem cd_len {K : PySem.W.Frag} : CallD K (fun xs H Q => ∃ x n, xs = [x] ∧ LenV K x H n ∧ Q (.int n) H) lenD := fun F H xs ds Q0 Q s r q k => by
  cases r with
  | nil => exact q.elim
  | cons r1 r2 => cases r2 with
    | cons _ _ => cases r1 <;> exact q.elim
    | nil =>
      cases r1 <;> first | exact q.elim | skip
      · exact ⟨_, _, rfl, ⟨q.1, rfl⟩, k _ H F _ (.refl s) (.int _) q.2⟩
      · rename_i h ra
        refine ⟨_, _, rfl, .inr ⟨_, s.seqT h, rfl⟩, ?_⟩
        rw [ra.length]
        exact k _ H F _ (.refl s) (.int _) q
      · rename_i h ra
        refine ⟨_, _, rfl, .inl ⟨_, .of (s.lst h), rfl⟩, ?_⟩
        rw [ra.length]
        exact k _ H F _ (.refl s) (.int _) q
def max2D : DF
  | [.int i, .int j], Q => Q (.int (if j > i then j else i))
  | _, _ => False
def min2D : DF
  | [.int i, .int j], Q => Q (.int (if j < i then j else i))
  | _, _ => False
theorem cd_max2 {K : PySem.W.Frag} : CallD K (fun xs H Q => ∃ i j, xs = [.int i, .int j] ∧ Q (.int (if j > i then j else i)) H) max2D := fun F H xs ds Q0 Q s r q k => by
  rcases r with _ | ⟨r1, _ | ⟨r2, _ | ⟨_, _⟩⟩⟩ <;> first | exact q.elim | (cases r1 <;> exact q.elim) | (cases r1 <;> cases r2 <;> exact q.elim) | skip
  cases r1 <;> first | exact q.elim | skip
  cases r2 <;> first | exact q.elim | skip
  exact ⟨_, _, rfl, k _ H F _ (.refl s) (.int _) q⟩
theorem cd_min2 {K : PySem.W.Frag} : CallD K (fun xs H Q => ∃ i j, xs = [.int i, .int j] ∧ Q (.int (if j < i then j else i)) H) min2D := fun F H xs ds Q0 Q s r q k => by
  rcases r with _ | ⟨r1, _ | ⟨r2, _ | ⟨_, _⟩⟩⟩ <;> first | exact q.elim | (cases r1 <;> exact q.elim) | (cases r1 <;> cases r2 <;> exact q.elim) | skip
  cases r1 <;> first | exact q.elim | skip
  cases r2 <;> first | exact q.elim | skip
  exact ⟨_, _, rfl, k _ H F _ (.refl s) (.int _) q⟩
def listD : DF
  | [.lst ds], Q => Q (.lst ds)
  | [.tup ds], Q => Q (.lst ds)
  | _, _ => False
def tupleD : DF
  | [.lst ds], Q => Q (.tup ds)
  | [.tup ds], Q => Q (.tup ds)
  | _, _ => False
def isT : D → Bool
  | .bl b => b
  | _ => false
def isB : D → Bool
  | .bl _ => true
  | _ => false
theorem bools_of {K : PySem.W.Frag} {F : Hp} : ∀ {vs : List V} {ds : List D}, RpA K F vs ds → ds.all isB = true → vs = (ds.map isT).map V.bl
  | _, _, .nil, _ => rfl
  | _, _, .cons h r, q => by
    simp only [List.all_cons, Bool.and_eq_true] at q
    have ih := bools_of r q.2
    cases h <;> first | (rw [ih]; rfl) | (exact absurd q.1 (by simp [isB]))
def allD : DF
  | [.lst ds], Q => ds.all isB = true ∧ Q (.bl (ds.all isT))
  | _, _ => False
def anyD : DF
  | [.lst ds], Q => ds.all isB = true ∧ Q (.bl (ds.any isT))
  | _, _ => False
theorem cd_all {K : PySem.W.Frag} : CallD K (rAll K) allD := fun F H xs ds Q0 Q s r q k => by
  rcases r with _ | ⟨r1, _ | ⟨_, _⟩⟩ <;> first | exact q.elim | (cases r1 <;> exact q.elim) | skip
  cases r1 <;> first | exact q.elim | skip
  rename_i h ra
  have e := bools_of ra q.1
  refine ⟨_, _, rfl, .of (by rw [s.lst h, e]), ?_⟩
  rw [List.all_map]
  exact k _ H F _ (.refl s) (.bl _) q.2
/-! ### items, slices -/
def ixD : D2 := fun x y Q => match x, y with
  | .tup ds, .int i => (match atI ds i with
    | some d => Q d
    | none => False)
  | .lst ds, .int i => (match atI ds i with
    | some d => Q d
    | none => False)
  | _, _ => False
theorem RpA.atI {K : PySem.W.Frag} {F : Hp} {xs : List V} {ds : List D} {i : Int} {d : D} (r : RpA K F xs ds) (h : L2.atI ds i = some d) : ∃ v, L2.atI xs i = some v ∧ Rp K F v d := by
  unfold L2.atI at h ⊢
  rw [r.length]
  cases e : ixN ds.length i with
  | none => rw [e] at h; cases h
  | some j =>
    rw [e] at h
    exact r.get h
theorem od_ix {K : PySem.W.Frag} : OpD K (fun x y H Q => rIxL K x y H Q ∨ rIxT K x y H Q) ixD := fun F H x y dx dy Q0 Q s rx ry q k => by
  cases rx <;> cases ry <;> first | exact q.elim | skip
  · rename_i ds h ra i
    have q' : (match L2.atI ds i with
      | some d => Q0 d
      | none => False) := q
    cases e : L2.atI ds i with
    | none => rw [e] at q'; exact q'.elim
    | some d =>
      rw [e] at q'
      obtain ⟨v, ev, rv⟩ := ra.atI e
      exact .inr ⟨_, _, _, _, rfl, rfl, s.seqT h, ev, k _ H F _ (.refl s) rv q'⟩
  · rename_i ds h ra i
    have q' : (match L2.atI ds i with
      | some d => Q0 d
      | none => False) := q
    cases e : L2.atI ds i with
    | none => rw [e] at q'; exact q'.elim
    | some d =>
      rw [e] at q'
      obtain ⟨v, ev, rv⟩ := ra.atI e
      exact .inl ⟨_, _, _, _, rfl, rfl, .of (s.lst h), ev, k _ H F _ (.refl s) rv q'⟩
theorem pd_item (ha : PD X a ta) (hb : PD X b tb) (hs : PlainIx b := by exact fun _ _ => rfl) : PD X (.Subscript a b pos) (dOp ixD ta tb) := pd_ix (ix_list.or ix_tup) od_ix ha hb hs
/-- a part of a slice -/
abbrev DO := List Slot → (Option Int → Prop) → Prop
def lfO (K : PySem.W.Frag) (t : DO) : TO := fun σ H Q => ∃ ρ F Q0, Sub F H ∧ EnvOk K F H σ ρ ∧ t ρ Q0 ∧ ∀ o H' F', Ext F H F' H' → Q0 o → Q o H'
def PDO (X : Cx) (o : Option Expr) (t : DO) : Prop := PO X o (lfO X.K t)
theorem _root_.L2.PO.impD {o : Option Expr} {t t' : TO} (h : PO X o t) (i : ∀ σ H Q, t' σ H Q → t σ H Q) : PO X o t' := ⟨fun p s σ H Q I q => h.run p s σ H Q I (i _ _ _ q)⟩
def dNo : DO := fun _ Q => Q none
def dPart (t : DE) : DO := fun ρ Q => t ρ fun d => match d with
  | .int i => Q (some i)
  | _ => False
theorem pdo_none : PDO X none dNo := po_none.impD fun σ H Q ⟨ρ, F, Q0, s, en, ht, k⟩ => k _ H F (.refl s) ht
theorem pdo_some (h : PD X e t) : PDO X (some e) (dPart t) := (po_some h).impD fun σ H Q ⟨ρ, F, Q0, s, en, ht, k⟩ => ⟨ρ, F, _, s, en, ht, fun v H1 F1 d x1 r q => by
  cases r <;> first | exact q.elim | skip
  exact ⟨_, rfl, k _ H1 F1 x1 q⟩⟩
def cutD (xs : List D) (lo hi : Option Int) : List D := (xs.drop (HT.sIx xs.length 0 lo)).take (HT.sIx xs.length xs.length hi - HT.sIx xs.length 0 lo)
def slD (x : D) (lo hi : Option Int) (Q : D → Prop) : Prop := match x with
  | .tup ds => ¬ (HT.sIx ds.length 0 lo = 0 ∧ HT.sIx ds.length ds.length hi = ds.length) ∧ Q (.tup (cutD ds lo hi))
  | .lst ds => Q (.lst (cutD ds lo hi))
  | _ => False
def dSl (t : DE) (l h : DO) : DE := fun ρ Q => t ρ fun x => l ρ fun lo => h ρ fun hi => slD x lo hi Q
theorem RpA.cut {K : PySem.W.Frag} {F : Hp} {xs : List V} {ds : List D} (r : RpA K F xs ds) (lo hi : Option Int) : RpA K F (cutV xs lo hi) (cutD ds lo hi) := by
  unfold cutV cutD
  rw [r.length]
  exact (r.drop _).take _
theorem pd_slice {lo hi : Option Expr} {l h : DO} {p2 : Pos} (he : PD X e t) (hl : PDO X lo l) (hh : PDO X hi h) : PD X (.Subscript e (.Slice lo hi none p2) pos) (dSl t l h) := (pe_slice (SlR.or sl_tup sl_list) he hl hh).impD fun σ H Q ⟨ρ, F, Q0, s, en, ht, k⟩ =>
  ⟨ρ, F, _, s, en, ht, fun v H1 F1 d x1 r q => ⟨ρ, F1, _, x1.sub, en.mono x1, q, fun o H2 F2 x2 q2 => ⟨ρ, F2, _, x2.sub, en.mono (x1.trans x2), q2, fun o' H3 F3 x3 q3 => by
    have r3 := r.mono (x2.mono.trans x3.mono)
    have xx := (x1.trans x2).trans x3
    cases r3 <;> first | exact q3.elim | skip
    · rename_i h ra
      refine .inl ⟨_, _, rfl, x3.sub.seqT h, by rw [ra.length]; exact q3.1, fun p hp => ?_⟩
      exact k _ _ _ _ (xx.trans (Ext.newT x3.sub hp)) (.tup (.inl (.inl upd_same)) ((ra.cut o o').mono (Ext.newT x3.sub hp).mono)) q3.2
    · rename_i h ra
      refine .inr ⟨_, _, rfl, .of (x3.sub.lst h), fun p hp => ?_⟩
      exact k _ _ _ _ (xx.trans (Ext.newL x3.sub hp)) (.lst upd_same ((ra.cut o o').mono (Ext.newL x3.sub hp).mono)) q3⟩⟩⟩

/-! ### isinstance of built-in types -/
def tyD : D → String
  | .non => "NoneType" | .bl _ => "bool" | .int _ => "int" | .str _ => "str" | .tup _ => "tuple" | .lst _ => "list" | .dic _ => "dict" | .bag => "list" | .scr => "list"
/-- data whose kind may be asked (dicts with keys that are tuples: not so) -/
def D.tyOk : D → Bool
  | .dic kvs => kvs.all fun p => !p.1.kok
  | _ => true
theorem Rp.tyX {K : PySem.W.Frag} {F H : Hp} (s : Sub F H) {v : V} {d : D} (r : Rp K F v d) (ok : d.tyOk = true) : TyX K H v (.type (tyD d)) := by
  cases r with
  | non => exact .base .non
  | bl b => exact .base (.bl b)
  | int b => exact .base (.int b)
  | str b => exact .base (.str b)
  | lst h _ => exact .base (.lst (s.lst h))
  | dic h _ _ => exact .fDict (s.frz h)
  | dicT h k0 k1 k2 r1 r2 =>
    rename_i ds
    cases ds with
    | nil => exact absurd rfl k0
    | cons p ds =>
      exfalso
      simp only [D.tyOk, List.all_cons, Bool.and_eq_true] at ok
      rw [k2 p List.mem_cons_self] at ok
      exact Bool.false_ne_true ok.1
  | bag h =>
    obtain ⟨_, _, _, _, _, e⟩ := (s _ _ h).bag
    exact .base (.lst e)
  | scr h _ =>
    rcases h with (h | ⟨o, h⟩) | ⟨o, its, n, e, c, _⟩
    · exact .base (.lst (s.lst h))
    · exact .base (.frz (s.frz h))
    · exact .kList e c
  | tup h _ =>
    rcases h with (h | ⟨o, h⟩) | ⟨o, its, n, e, c, _⟩
    · exact .base (.tup (s.tup h))
    · exact .fTuple (s.frz h)
    · exact .kTuple e c
/-- the answers that the laws ask for, by the type's name -/
def isiD (T : String) (d : D) : Bool := match d with
  | .non => decide (T = "NoneType")
  | .bl _ => decide (T = "bool") || decide (T = "int")
  | .int _ => decide (T = "int")
  | .str _ => decide (T = "str")
  | .tup _ => decide (T = "tuple")
  | .lst _ => decide (T = "list")
  | .dic _ => decide (T = "dict")
  | .bag => decide (T = "list")
  | .scr => decide (T = "list")
def kitT (T : String) : Bool := [("NoneType", ["NoneType"]), ("bool", ["bool", "int"]), ("int", ["int"]), ("str", ["str"]), ("tuple", ["tuple"]), ("list", ["list"]), ("dict", ["dict"])].all fun p => decide (kitB p.1 T = some (p.2.contains T))
theorem kit_d {K : PySem.W.Frag} {T : String} (h : kitT T = true) (d : D) : PySem.W.kitOne K (.type (tyD d)) (.type T) = some (isiD T d) := by
  have h' := List.all_eq_true.mp h
  cases d <;> refine kit_ty ?_
  · have := of_decide_eq_true (h' ("NoneType", ["NoneType"]) (by simp)); rw [show tyD .non = "NoneType" from rfl, this]; simp [isiD, List.contains_cons]
  · rename_i b; have := of_decide_eq_true (h' ("bool", ["bool", "int"]) (by simp)); rw [show tyD (.bl b) = "bool" from rfl, this]; simp [isiD, List.contains_cons]
  · rename_i b; have := of_decide_eq_true (h' ("int", ["int"]) (by simp)); rw [show tyD (.int b) = "int" from rfl, this]; simp [isiD, List.contains_cons]
  · rename_i b; have := of_decide_eq_true (h' ("str", ["str"]) (by simp)); rw [show tyD (.str b) = "str" from rfl, this]; simp [isiD, List.contains_cons]
  · rename_i b; have := of_decide_eq_true (h' ("tuple", ["tuple"]) (by simp)); rw [show tyD (.tup b) = "tuple" from rfl, this]; simp [isiD, List.contains_cons]
  · rename_i b; have := of_decide_eq_true (h' ("list", ["list"]) (by simp)); rw [show tyD (.lst b) = "list" from rfl, this]; simp [isiD, List.contains_cons]
  · rename_i b; have := of_decide_eq_true (h' ("dict", ["dict"]) (by simp)); rw [show tyD (.dic b) = "dict" from rfl, this]; simp [isiD, List.contains_cons]
  · have := of_decide_eq_true (h' ("list", ["list"]) (by simp)); rw [show tyD .bag = "list" from rfl, this]; simp [isiD, List.contains_cons]
  · have := of_decide_eq_true (h' ("list", ["list"]) (by simp)); rw [show tyD .scr = "list" from rfl, this]; simp [isiD, List.contains_cons]
def dIsi (T : String) (t : DE) : DE := fun ρ Q => t ρ fun d => d.tyOk = true ∧ Q (.bl (isiD T d))
theorem pd_isi {T : Str} {p2 : Pos} (Tn : String) (hv2 : bootBuiltins T = some (.type Tn)) (hk : kitT Tn = true) (hm : X.mg "isinstance" = none) (hm2 : X.mg T = none) (he : PD X e t) (hg2 : Gl X T := by rfl) (hn2 : T ≠ "__name__" := by decide) (hd2 : (T == ("__debug__" : Str)) = false := by decide) (hg : Gl X "isinstance" := by rfl)
    (h1 : starEach [e, .Name T p2] X.env = (false, eval e X.env) :: starEach [.Name T p2] X.env := by rfl) :
    PD X (.Call (.Name "isinstance" p) [e, .Name T p2] [] pos) (dIsi Tn t) := by
  refine PE.impD (t := tCB (rIsi X.K) (tCons (lfE X.K t) (tCons (tC (.ty Tn)) tNil))) ?_ fun σ H Q ⟨ρ, F, Q0, s, en, ht, k⟩ => ⟨ρ, F, _, s, en, ht, fun v H1 F1 d x1 r q => ?_⟩
  · exact pe_callB call_isi hg hm (by decide +kernel) (pa_cons he (pa_cons (pe_bltn hg2 hm2 hv2 rfl hn2 hd2) pa_nil) h1) (by decide) (by decide) h1
  · exact ⟨v, _, _, _, _, rfl, .ty Tn, r.tyX x1.sub q.1, kit_d hk d, k _ H1 F1 _ x1 (.bl _) q.2⟩
def dIsi2 (T S : String) (t : DE) : DE := fun ρ Q => t ρ fun d => d.tyOk = true ∧ Q (.bl (isiD T d || isiD S d))
theorem pd_isi2 {T S : Str} {p2 p3 p4 : Pos} {x1} (Tn Sn : String) (hv2 : bootBuiltins T = some (.type Tn)) (hv3 : bootBuiltins S = some (.type Sn)) (hk : kitT Tn = true) (hk3 : kitT Sn = true) (hm : X.mg "isinstance" = none) (hm2 : X.mg T = none) (hm3 : X.mg S = none) (he : PD X e t)
    (hg2 : Gl X T := by rfl) (hn2 : T ≠ "__name__" := by decide) (hd2 : (T == ("__debug__" : Str)) = false := by decide) (hg3 : Gl X S := by rfl) (hn3 : S ≠ "__name__" := by decide) (hd3 : (S == ("__debug__" : Str)) = false := by decide) (hg : Gl X "isinstance" := by rfl)
    (h1 : starEach [e, .Tuple [.Name T p2, .Name S p3] x1 p4] X.env = (false, eval e X.env) :: starEach [.Tuple [.Name T p2, .Name S p3] x1 p4] X.env := by rfl) :
    PD X (.Call (.Name "isinstance" p) [e, .Tuple [.Name T p2, .Name S p3] x1 p4] [] pos) (dIsi2 Tn Sn t) := by
  refine PE.impD (t := tCB (rIsiT X.K) (tCons (lfE X.K t) (tCons (tTup (tCons (tC (.ty Tn)) (tCons (tC (.ty Sn)) tNil))) tNil))) ?_ fun σ H Q ⟨ρ, F, Q0, s, en, ht, k⟩ => ⟨ρ, F, _, s, en, ht, fun v H1 F1 d y1 r q => ?_⟩
  · exact pe_callB call_isiT hg hm (by decide +kernel) (pa_cons he (pa_cons (pe_tup (pa_cons (pe_bltn hg2 hm2 hv2 rfl hn2 hd2) (pa_cons (pe_bltn hg3 hm3 hv3 rfl hn3 hd3) pa_nil))) pa_nil) h1) (by decide) (by decide) h1
  · refine ⟨by show 2 ≤ sizeLine; decide, fun tp hp => ?_⟩
    have x := Ext.newT (xs := [V.ty Tn, V.ty Sn]) y1.sub hp
    refine ⟨v, tp, _, _, _, isiD Tn d || isiD Sn d, rfl, upd_same, .cons (.ty Tn) (.cons (.ty Sn) .nil), (r.mono x.mono).tyX x.sub q.1, ?_, k _ _ _ _ (y1.trans x) (.bl _) q.2⟩
    refine kitAny_cons (kit_d hk d) (fun h1 => ?_) (fun h1 => by rw [h1]; rfl)
    rw [h1, Bool.false_or]
    exact kitAny_cons (kit_d hk3 d) (fun h2 => by rw [h2]; exact kitAny_nil) (fun h2 => h2)
end
end DV

namespace DV
open PySem PySem.Spec PyProof.Rows L2

/-! ### list comprehensions -/
def wipeD (ρ : List Slot) : List Nat → List Slot
  | [] => ρ
  | v :: vs => (wipeD ρ vs).set v .un
def lcD (g : DG) (tt : DT) (te : DE) (ρ : List Slot) : List D → List D → (D → Prop) → Prop
  | [], acc, Q => Q (.lst acc)
  | d :: ds, acc, Q => g d ρ fun ρ2 => tt ρ2 fun b => if b = true then te ρ2 fun y => acc.length < sizeLine ∧ lcD g tt te ρ ds (acc ++ [y]) Q else lcD g tt te ρ ds acc Q
def dLc (it : DI) (g : DG) (tt : DT) (te : DE) (vs : List Nat) : DE := fun ρ Q => it ρ fun ds => lcD g tt te (wipeD ρ vs) ds [] Q
def dYes : DT := fun _ Q => Q true
theorem _root_.L2.PTs.impD {X : Cx} {es : List Expr} {t t' : TT} (h : PTs X es t) (i : ∀ σ H Q, t' σ H Q → t σ H Q) : PTs X es t' := ⟨fun p s σ H Q I q => h.run p s σ H Q I (i _ _ _ q)⟩
theorem pdts_nil {X : Cx} : PTs X [] (lfT X.K dYes) := pts_nil.impD fun σ H Q ⟨ρ, F, Q0, s, en, ht, k⟩ => k _ H F (.refl s) ht
theorem pdts_one {X : Cx} {c : Expr} {t : DT} (h : PDT X c t) : PTs X [c] (lfT X.K t) := pts_one h
theorem EnvOk.un {K : PySem.W.Frag} {F H : Hp} {σ : St} {ρ : List Slot} (h : EnvOk K F H σ ρ) (i : Nat) : EnvOk K F H (σ.set i none) (ρ.set i .un) := by
  refine ⟨by simp [h.len], fun j s e => ?_, fun a b p d' e' hab h1 h2 h3 h4 => ?_⟩
  · by_cases hj : j = i
    · subst hj
      have hl : j < ρ.length := by
        have := (List.getElem?_eq_some_iff.mp e).1
        simpa using this
      rw [List.getElem?_set_self hl] at e
      cases e
      exact ⟨none, by rw [List.getElem?_set_self (by rw [h.len]; exact hl)], trivial⟩
    · rw [List.getElem?_set_ne (Ne.symm hj)] at e ⊢
      exact h.at_ j s e
  · have ne : ∀ {a : Nat} {d : D}, (ρ.set i Slot.un)[a]? = some (Slot.own d) → a ≠ i := fun {a d} q z => by
      subst z
      have hl : a < ρ.length := by
        have := (List.getElem?_eq_some_iff.mp q).1
        simpa using this
      rw [List.getElem?_set_self hl] at q; cases q
    have na := ne h2
    have nb := ne h4
    rw [List.getElem?_set_ne (Ne.symm na)] at h1 h2
    rw [List.getElem?_set_ne (Ne.symm nb)] at h3 h4
    exact h.sep a b p d' e' hab h1 h2 h3 h4
theorem EnvOk.wipe {K : PySem.W.Frag} {F H : Hp} {σ : St} {ρ : List Slot} (h : EnvOk K F H σ ρ) : ∀ vs : List Nat, EnvOk K F H (L2.wipe σ vs) (wipeD ρ vs)
  | [] => h
  | v :: vs => (EnvOk.wipe h vs).un v
theorem Sta.empty {K : PySem.W.Frag} {F H : Hp} {σ : St} {ρ : List Slot} (s : Sub F H) (en : EnvOk K F H σ ρ) : Sta K (fun _ => none) (fun _ => none) F F σ H ρ :=
  ⟨fun _ _ e => (nomatch e), Same.refl F, ⟨fun _ _ e => (nomatch e), fun _ _ _ e => (nomatch e), s⟩, en, fun _ _ _ _ _ => rfl⟩
section
variable {X : Cx} {elt tg iter : Expr} {ifs : List Expr} {scope : Scope} {own : List (Str × Nat)} {pos : Pos} {it : DI} {g : TG} {g' : DG} {tt : DT} {te : DE}
theorem lf_lc (hG : RelG X.K (own.map (·.2)) g g') : ∀ σ H Q, lfE X.K (dLc it g' tt te (own.map (·.2))) σ H Q → tLc (lfI X.K it) g (lfT X.K tt) (lfE X.K te) (own.map (·.2)) σ H Q := fun σ H Q ⟨ρ, F, Q0, s, en, ht, k⟩ => by
  refine ⟨ρ, F, _, s, en, ht, fun J H1 F1 ds x1 io q Dd hD => ?_⟩
  have en1 := en.mono x1
  have hF1 := x1.sub.none hD
  refine ⟨fun i m H' => m = ds.length - i ∧ i ≤ ds.length ∧ ∃ F' acc xs, Ext F1 H1 F' H' ∧ F' Dd = none ∧ H' Dd = some (.lst xs) ∧ RpA X.K F' xs acc ∧ lcD g' tt te (wipeD ρ (own.map (·.2))) (ds.drop i) acc Q0,
    ⟨ds.length, rfl, Nat.zero_le _, F1, [], [], Ext.newO x1.sub hD, hF1, upd_same, .nil, q⟩, fun i m H' hW => ?_⟩
  obtain ⟨rfl, hle, F', acc, xs, x2, hF', hH', ra, q'⟩ := hW
  obtain ⟨h1, h2⟩ := io F' H' x2.mono x2.sub i
  by_cases hi : i < ds.length
  · obtain ⟨go, hy⟩ := h1 hi
    refine .inr ⟨go, fun H'' => ∃ F' acc xs, Ext F1 H1 F' H'' ∧ F' Dd = none ∧ H'' Dd = some (.lst xs) ∧ RpA X.K F' xs acc ∧ lcD g' tt te (wipeD ρ (own.map (·.2))) (ds.drop (i + 1)) acc Q0,
      fun H'' hN => ⟨ds.length - (i + 1), by omega, rfl, hi, hN⟩, fun x H2 hyx => ?_⟩
    obtain ⟨F2, d, x3, ed, rd⟩ := hy x H2 hyx
    rw [drop_cons ed] at q'
    have x23 := x2.trans x3
    have D2 := x3.keep Dd _ hF' hH'
    refine hG _ _ _ _ _ _ _ _ _ _ _ (Sta.empty x23.sub ((en1.mono x23).wipe _)) rd q' fun σ3 ρ3 s3 hw q3 => ⟨hw.trans (by
      have ww : ∀ (vs : List Nat) (σ : St), L2.wipe (L2.wipe σ vs) vs = L2.wipe σ vs := by
        intro vs σ
        have aux : ∀ (us : List Nat), (∀ u ∈ us, u ∈ vs) → L2.wipe (L2.wipe σ us) vs = L2.wipe σ vs := by
          intro us
          induction us with
          | nil => intro _; rfl
          | cons u r ih =>
            intro hu
            show L2.wipe ((L2.wipe σ r).set u none) vs = _
            rw [wipe_at (hu u List.mem_cons_self)]
            exact ih fun v hv => hu v (List.mem_cons_of_mem _ hv)
        exact aux vs fun u hu => hu
      exact ww _ _), ρ3, F2, _, s3.ext.sub, s3.env, q3, fun b H3 F3 x4 q4 => ?_⟩
    have x24 := x23.trans x4
    have D3 := x4.keep Dd _ D2.2 D2.1
    cases b with
    | false => exact iteF ⟨F3, acc, xs, x24, D3.2, D3.1, ra.mono (x3.mono.trans x4.mono), q4⟩
    | true =>
      refine iteT ⟨ρ3, F3, _, x4.sub, s3.env.mono x4, q4, fun y H4 F4 dy x5 ry q5 => ?_⟩
      have x25 := x24.trans x5
      have D4 := x5.keep Dd _ D3.2 D3.1
      have ra4 := ra.mono ((x3.mono.trans x4.mono).trans x5.mono)
      refine ⟨xs, D4.1, by rw [ra.length]; exact q5.1, F4, acc ++ [dy], xs ++ [y], ⟨x25.mono, fun a o e z => ?_, Ext.own x25.sub D4.2⟩, D4.2, upd_same, ra4.append (.cons ry .nil), q5.2⟩
      rw [upd_ne (ne_of_none z hD)]
      exact x25.keep a o e z
  · refine .inl ⟨h2 (by omega), ?_⟩
    have e : ds.drop i = [] := List.drop_eq_nil_of_le (by omega)
    rw [e] at q'
    have xa := x2.adopt hD hF' hH'
    have m : Same F' (upd F' Dd (.lst xs)) := fun b o e => by rw [upd_ne (ne_of_none e hF')]; exact e
    exact k _ _ _ _ (x1.trans xa) (.lst upd_same (ra.mono m)) q'
theorem pd_lc (hG : RelG X.K (own.map (·.2)) g g') (hc : X.calm = true) (hN : X.N.Nodup) (hi : PDI X tg iter it) (ok : BlkOk X.N X.env.scope scope own)
    (hg : ∀ (s : Shared) (H : Hp) (C : Addr) (cl : List (Str × Addr)) (fp : List Addr), PG (X.blk s H scope (compEnvC scope cl C X.env) fp) tg g)
    (ht : ∀ (s : Shared) (H : Hp) (C : Addr) (cl : List (Str × Addr)) (fp : List Addr), PTs (X.blk s H scope (compEnvC scope cl C X.env) fp) ifs (lfT X.K tt))
    (he : ∀ (s : Shared) (H : Hp) (C : Addr) (cl : List (Str × Addr)) (fp : List Addr), PE (X.blk s H scope (compEnvC scope cl C X.env) fp) elt (lfE X.K te)) (hs : ∀ x, foldedSetIterable iter X.env x = pure x := by intro _; rfl) :
    PD X (.ListComp elt [⟨tg, iter, ifs, 0⟩] scope pos) (dLc it g' tt te (own.map (·.2))) := (pe_lc hc hN hi ok hg ht he hs).impD (lf_lc hG)
end

/-- a list of one's own is handed back -/
def sRetOwn (i : Nat) : DS := fun N ρ => match ρ[i]? with
  | some (.own d) => N.ro d
  | _ => False
theorem pds_retOwn {X : Cx} {e : Expr} {i : Nat} {pos : Pos} (h : PE X e (tVar i)) : PDS X (.Return (some e) pos) (sRetOwn i) := (ps_ret h).impD fun N σ H ⟨F0, H0, G, ρ, M, ⟨F, so⟩, ht, k⟩ => by
  unfold sRetOwn at ht
  cases hi : ρ[i]? with
  | none => rw [hi] at ht; exact ht.elim
  | some sl =>
    rw [hi] at ht
    cases sl with
    | un => exact ht.elim
    | v d => exact ht.elim
    | tg u d => exact ht.elim
    | tb T => exact ht.elim
    | own d =>
      obtain ⟨x, e1, p, e2, hF, o⟩ := so.env.at_ i _ hi
      subst e2
      exact ⟨_, e1, k.ro _ _ _ _ so.ext (so.own i p _ e1 hi) hF o ht⟩

theorem hu65 {k : Nat} {A : Around} (r : Room k A) : A.units + 65 < cLine := by
  have := r.un
  omega
/-! ### the law's draws -/
def pullD : DSp := fun ds Q => ∃ n : Int, ds = [.bag, .int n] ∧ 0 < n ∧ DivOk n ∧ ∀ r : Int, 0 ≤ r → r < n → Q (.int r)
def bagD : DSp := fun ds Q => ds = [.scr] ∧ Q .bag

/-! ### the law's end -/
theorem mkGd {P : Program} {w : World} {K : PySem.W.Frag} {mg : Str → Option Value} {base : Heap} {nm : Str} {k : Nat} {dd : List D} {f : DSp} {a : Addr} {fd : FuncData} {ps : List Str} (hm : mg nm = some (.ref a)) (hk : PySem.W.keepIn K (.ref a) = true) (F : FnOk P w K mg base CX0 k a fd ps (spD K f))
    {dvs : List V} (b : ∃ ds, Vals dvs ds ∧ Binds K fd ps ds) (r : ∀ F, RpA K F dvs dd) : Gd P w K mg base nm k dd f := by
  obtain ⟨ds, h1, h2⟩ := b
  exact ⟨a, fd, ps, ds, dvs, hm, hk, F, h2, h1, r⟩
def onlyAt (H : Hp) (a : Addr) : Hp := fun b => if b = a then H b else none
theorem onlyAt_same {H : Hp} {a : Addr} : onlyAt H a a = H a := by unfold onlyAt; rw [if_pos rfl]
theorem onlyAt_some {H : Hp} {a b : Addr} {o : HO} (h : onlyAt H a b = some o) : b = a ∧ H a = some o := by
  unfold onlyAt at h
  by_cases hb : b = a
  · rw [if_pos hb] at h
    subst hb
    exact ⟨rfl, h⟩
  · rw [if_neg hb] at h; cases h
/-- the promise of the law's def, of its statement over data -/
theorem law_sp {K : PySem.W.Frag} {f : DSp} (h : f [.scr] fun d => d = .bl true) {H : Hp} {a : Addr} {ns : List Int} (hl : ns.length ≤ 63) (hS : SqL K H a (ns.map V.int)) : spD K f [.ref a] H (fun v _ => v = .bl true) fun _ _ _ => False := by
  rcases hS with hS | hS
  · refine ⟨onlyAt H a, [.scr], _, fun b o e => ?_, .cons (.scr (ns := ns) (.inl ?_) hl) .nil, h, fun v H' F' d _ r q => ?_⟩
    · obtain ⟨rfl, e⟩ := onlyAt_some e
      rcases hS with z | ⟨o', z⟩ <;> rw [z] at e <;> cases e <;> exact z
    · rcases hS with z | ⟨o', z⟩
      · exact .inl (onlyAt_same.trans z)
      · exact .inr ⟨o', onlyAt_same.trans z⟩
    · subst q; cases r; rfl
  · refine ⟨fun _ => none, [.scr], _, fun _ _ e => (nomatch e), .cons (.scr (ns := ns) (.inr hS) hl) .nil, h, fun v H' F' d _ r q => ?_⟩
    subst q; cases r; rfl
end DV

namespace DV
open PySem PySem.Spec PyProof.Rows L2

/-! ### a list of one's own is frozen -/
def frz (i : Nat) (ρ : List Slot) : List Slot := match ρ[i]? with
  | some (.own d) => ρ.set i (.v d)
  | _ => ρ
def sFrz (i : Nat) (t : DS) : DS := fun N ρ => t N (frz i ρ)
theorem ext_upd {F H F1 H1 : Hp} (x : Ext F1 H1 F H) {p : Addr} {o : HO} (hp : H1 p = none) (hF : F p = none) (ho : ∀ ps, o ≠ .tbl ps) : Ext F1 H1 (upd F p o) (upd H p o) := by
  have m : Same F (upd F p o) := fun b o e => by rw [upd_ne (ne_of_none e hF)]; exact e
  refine ⟨x.mono.trans m, fun a o e q => ?_, fun b u e => ?_⟩
  · rw [upd_ne (ne_of_none q hp), upd_ne (ne_of_none q hp)]
    exact x.keep a o e q
  · by_cases hb : b = p
    · subst hb
      rw [upd_same] at e; cases e
      cases o with
      | tbl ps => exact absurd rfl (ho ps)
      | _ => exact upd_same
    · rw [upd_ne hb] at e
      exact (x.sub b u e).mono m fun u q => by rw [upd_ne hb]; exact q
/-- u is the frozen form of u0 -/
def FrzOf (u0 u : HO) : Prop := (∃ xs, u0 = .lst xs ∧ u = .lst xs) ∨ (∃ od, u = .frz od u0 ∧ Mut (some u0) ∧ ∀ xs, u0 ≠ .tup xs)
/-- an object of one's own is frozen (a dict is locked) -/
theorem own_freeze {X : Cx} {pins : List (Addr × Obj)} {σ : St} {s : Shared} {F1 H1 F H : Hp} (I : Inv X pins σ H s) (x : Ext F1 H1 F H) {p : Addr} {d : D} (hp : H1 p = none) (hF : F p = none) (o : OwnAt X.K F H p d) :
    ∃ u0 u, H p = some u0 ∧ FrzOf u0 u ∧ (∀ o' u', X.H_0 p ≠ some (.frz o' u')) ∧ Inv X pins σ (upd H p u) s ∧ Ext F1 H1 (upd F p u) (upd H p u) ∧ Rp X.K (upd F p u) (.ref p) d := by
  have m : ∀ u, Same F (upd F p u) := fun u b o e => by rw [upd_ne (ne_of_none e hF)]; exact e
  cases d <;> first | exact o.elim | skip
  · obtain ⟨xs, e, r⟩ := o
    refine ⟨_, .lst xs, e, .inl ⟨xs, rfl, rfl⟩, I.nofrz e True.intro, ?_, ext_upd x hp hF (fun _ z => nomatch z), .lst upd_same (r.mono (m _))⟩
    have : upd H p (.lst xs) = H := funext fun b => by
      by_cases h : b = p
      · rw [h, upd_same, e]
      · rw [upd_ne h]
    rw [this]; exact I
  · rcases o with ⟨ks, e, r, q⟩ | ⟨rows, e, q0, q1, q2, r1, r2⟩
    · obtain ⟨od, I1⟩ := I.lock e True.intro
      exact ⟨_, _, e, .inr ⟨od, rfl, True.intro, fun _ z => nomatch z⟩, I.nofrz e True.intro, I1, ext_upd x hp hF (fun _ z => nomatch z), .dic upd_same (r.mono (m _)) q⟩
    · obtain ⟨od, I1⟩ := I.lock e True.intro
      exact ⟨_, _, e, .inr ⟨od, rfl, True.intro, fun _ z => nomatch z⟩, I.nofrz e True.intro, I1, ext_upd x hp hF (fun _ z => nomatch z), .dicT upd_same q0 q1 q2 (r1.mono (m _)) (r2.mono (m _))⟩
/-- back to the form that may be changed -/
theorem own_thaw {X : Cx} {pins : List (Addr × Obj)} {σ : St} {s : Shared} {H : Hp} {p : Addr} {u0 u : HO} (I : Inv X pins σ H s) (h : H p = some u) (z : FrzOf u0 u) (n : ∀ o' u', X.H_0 p ≠ some (.frz o' u')) : Inv X pins σ (upd H p u0) s := by
  rcases z with ⟨xs, rfl, rfl⟩ | ⟨od, rfl, _, _⟩
  · have : upd H p (.lst xs) = H := funext fun b => by
      by_cases k : b = p
      · rw [k, upd_same, h]
      · rw [upd_ne k]
    rw [this]; exact I
  · exact I.unlock h n
theorem pds_frz {X : Cx} {st : Stmt} {t : DS} (i : Nat) (h : PDS X st t) : PDS X st (sFrz i t) := by
  refine ⟨fun pins s σ H N I ⟨F0, H0, G, ρ, M, ⟨F, so⟩, ht, k⟩ => ?_⟩
  unfold sFrz frz at ht
  have same : t M ρ → lfS X.K t N σ H := fun z => ⟨F0, H0, G, ρ, M, ⟨F, so⟩, z, k⟩
  cases hi : ρ[i]? with
  | none => rw [hi] at ht; exact h.run pins s σ H N I (same ht)
  | some sl =>
    rw [hi] at ht
    cases sl with
    | un => exact h.run pins s σ H N I (same ht)
    | v d => exact h.run pins s σ H N I (same ht)
    | tg u d => exact h.run pins s σ H N I (same ht)
    | tb T => exact h.run pins s σ H N I (same ht)
    | own d0 =>
      obtain ⟨y, e1, p, e2, hF, o⟩ := so.env.at_ i _ hi
      subst e2
      have h0 := so.own i p _ e1 hi
      obtain ⟨_, u, _, _, _, I1, x1, r1⟩ := own_freeze I so.ext h0 hF o
      have m : Same F (upd F p u) := fun b o e => by rw [upd_ne (ne_of_none e hF)]; exact e
      have hl : i < ρ.length := (List.getElem?_eq_some_iff.mp hi).1
      have other : ∀ {j : Nat} {q : Addr} {d : D}, j ≠ i → σ[j]? = some (some (.ref q)) → ρ[j]? = some (.own d) → q ≠ p := fun {j q d} hj a1 a2 z => by
        subst z
        exact so.env.sep j i q d _ hj a1 a2 e1 hi
      refine h.run pins s σ _ N I1 ⟨F0, H0, G, ρ.set i (.v d0), M, ⟨upd F p u, ⟨so.bse, so.pin.trans m, x1, ⟨by simp [so.env.len], fun j sl e => ?_, fun a b q d e hab a1 a2 a3 a4 => ?_⟩, fun j q d a1 a2 => ?_⟩⟩, ht, k⟩
      · by_cases hj : j = i
        · subst hj
          rw [List.getElem?_set_self hl] at e
          cases e
          exact ⟨_, e1, _, rfl, r1⟩
        · rw [List.getElem?_set_ne (Ne.symm hj)] at e
          obtain ⟨x, e3, ok⟩ := so.env.at_ j sl e
          refine ⟨x, e3, ?_⟩
          cases sl with
          | un => exact True.intro
          | v d =>
            obtain ⟨v, e4, r4⟩ := ok
            exact ⟨v, e4, r4.mono m⟩
          | tg u d => exact ⟨ok.1, ok.2.mono m⟩
          | tb T => exact TabF.mono ok m
          | own d =>
            obtain ⟨q, e4, hq, o⟩ := ok
            subst e4
            have nq := other hj e3 e
            exact ⟨q, rfl, by rw [upd_ne nq]; exact hq, o.mono m fun u z => by rw [upd_ne nq]; exact z⟩
      · have ne : ∀ {a : Nat} {d' : D}, (ρ.set i (Slot.v d0))[a]? = some (Slot.own d') → a ≠ i := fun {a d'} q z => by
          subst z
          rw [List.getElem?_set_self hl] at q; cases q
        have na := ne a2
        have nb := ne a4
        rw [List.getElem?_set_ne (Ne.symm na)] at a2
        rw [List.getElem?_set_ne (Ne.symm nb)] at a4
        exact so.env.sep a b q _ _ hab a1 a2 a3 a4
      · have nj : j ≠ i := fun z => by
          subst z
          rw [List.getElem?_set_self hl] at a2; cases a2
        rw [List.getElem?_set_ne (Ne.symm nj)] at a2
        exact so.own j q _ a1 a2

/-! ### x = y = e -/
def sAsg2 (i j : Nat) (t : DE) : DS := fun N ρ => t ρ fun d => N.nx ((ρ.set i (.v d)).set j (.v d))
/-! ### order of data -/
def ltX (f : PyData → PyData → Bool) (K : PySem.W.Frag) : R2 := fun x y H Q => ∃ d e, Dp K H x d ∧ Dp K H y e ∧ W.alike d e = true ∧ d ≠ .none ∧ d.depth ≤ 64 ∧ Q (.bl (f d e)) H
section
variable {X : Cx}
theorem op_ltX (hu : X.A.units + 64 < cLine) : OpR X (compareOp .Lt) (ltX (fun d e => W.dataLt d e) X.K) := by
  intro pins s σ H x y v u Q I rx ry h
  obtain ⟨d, e, hd, he, al, hn, hz, q⟩ := h
  obtain ⟨as, r1⟩ := Dp.reads I d x v hd rx
  obtain ⟨bs, r2⟩ := Dp.reads I e y u he ry
  exact PySem.W.lt_data r1 r2 al hn (by have := Nat.min_le_left d.depth e.depth; omega) ⟨.bl _, H, I, rfl, q⟩
theorem op_gtX (hu : X.A.units + 64 < cLine) : OpR X (compareOp .Gt) (ltX (fun d e => W.dataLt e d) X.K) := by
  intro pins s σ H x y v u Q I rx ry h
  obtain ⟨d, e, hd, he, al, hn, hz, q⟩ := h
  obtain ⟨as, r1⟩ := Dp.reads I d x v hd rx
  obtain ⟨bs, r2⟩ := Dp.reads I e y u he ry
  exact PySem.W.gt_data r1 r2 al hn (by have := Nat.min_le_left d.depth e.depth; omega) ⟨.bl _, H, I, rfl, q⟩
end
def ordD (f : PyData → PyData → Bool) : D2 := fun x y Q => x.lay = true ∧ y.lay = true ∧ W.alike x.toP y.toP = true ∧ x.toP ≠ .none ∧ Q (.bl (f x.toP y.toP))
theorem od_ord {K : PySem.W.Frag} {f : PyData → PyData → Bool} : OpD K (ltX f K) (ordD f) := fun F H x y dx dy Q0 Q s rx ry q k => by
  obtain ⟨h1, h2, h3, h4, q⟩ := q
  exact ⟨dx.toP, dy.toP, rx.dp s (lay_and h1).1, ry.dp s (lay_and h2).1, h3, h4, SeqAt.depth_of_shaped (lay_and h1).2, k _ H F _ (.refl s) (.bl _) q⟩
def ltT : D2 := ordD fun d e => W.dataLt d e
def gtT : D2 := ordD fun d e => W.dataLt e d
def leT : D2 := ordD fun d e => !W.dataLt e d
def geT : D2 := ordD fun d e => !W.dataLt d e
theorem opD_or {K : PySem.W.Frag} {r r' : R2} {g g' : D2} (h : OpD K r g) (h' : OpD K r' g') : OpD K (fun x y H Q => r x y H Q ∨ r' x y H Q) (fun x y Q => g x y Q ∨ g' x y Q) := fun F H x y dx dy Q0 Q s rx ry q k =>
  q.elim (fun z => .inl (h F H x y dx dy Q0 Q s rx ry z k)) (fun z => .inr (h' F H x y dx dy Q0 Q s rx ry z k))

/-! ### min, max -/
section
variable {prog : Program} {w : World} {A : Around} {E : Value → Shared → Prop} {s : Shared}
theorem max_twoH {a b : Value} {Q : Value → Shared → Prop}
    (h : wpAny (model prog w) A.in1 (pyIter (.ref s.heap.objs.size)) (fun it s₂ => ∃ I fp wr G n P St H bt, it = .ref I ∧ WalksS prog w A.in1 I fp wr G n P St ∧ St 0 s₂ ∧ (∀ b ∈ fp, b < s₂.heap.objs.size) ∧ 0 < n ∧
      (∀ b o, H.get? b = some o → b ∉ wr) ∧ (∀ b o, H.get? b = some o → s₂.heap.get? b = some o) ∧ CmpIn prog w A.in1 .Gt H P bt ∧ ∀ v s', P (argBest bt (n - 1)) v → Moved wr G s₂ s' → Q v s') E
      { s with heap := s.heap.push { cls := .type "tuple", data := .seq #[a, b] } }) :
    wpAny (model prog w) A (call (.builtin "max") [a, b]) Q E s := by
  have hname : (toString "max" ++ toString ".loop" : String) = "max.loop" := by decide
  refine call_function_tree F.kind_max F.plain_max F.entry_max (F.args_max2 _ _) ?_
  show wpAny _ A.in1 (Builtin.Builtins.bindParams "max" ["key", "default"] 0 ⟨[], []⟩ >>= _) _ _ s
  refine wpAny_bind (wpAny_of_eq (show Builtin.Builtins.bindParams "max" ["key", "default"] 0 ⟨[], []⟩ = pure [none, none] from rfl) ?_)
  show wpAny _ A.in1 (newTuple [a, b] >>= _) _ _ s
  refine wpAny_bind (wpAny_newObj_type ?_)
  refine wpAny_bind (wpAny_mono h (fun it s₂ h₂ => ?_) fun _ _ e => e)
  obtain ⟨I, fp, wr, G, n, P, St, H, bt, rfl, W, hst, hfp, hn, hw, hkeep, hcmp, hQ⟩ := h₂
  refine wpAny_bind (wpAny_newObj_type ?_)
  have hSf : s₂.heap.objs.size ∉ fp := fun hm => Nat.lt_irrefl _ (hfp _ hm)
  rw [hname]
  refine wpAny_pure ⟨plainId_quiet F.plain_max_loop _, codeAny_max_loop_firstH W H hw bt hcmp s₂.heap.objs.size hSf (fresh_in hkeep) _ hn (fun b o e => Heap.get?_push_of_some _ (hkeep b o e)) (W.frame 0 s₂ _ s₂.toks hst (Nat.le_refl _) fun b _ o e => Heap.get?_push_of_some _ e) (Heap.get?_push_size _ rfl) fun v s' hP hm => ?_⟩
  exact hQ v s' hP (Moved.drop_new (tk := s₂.toks) hm (Nat.le_refl _))
theorem min_twoH {a b : Value} {Q : Value → Shared → Prop}
    (h : wpAny (model prog w) A.in1 (pyIter (.ref s.heap.objs.size)) (fun it s₂ => ∃ I fp wr G n P St H bt, it = .ref I ∧ WalksS prog w A.in1 I fp wr G n P St ∧ St 0 s₂ ∧ (∀ b ∈ fp, b < s₂.heap.objs.size) ∧ 0 < n ∧
      (∀ b o, H.get? b = some o → b ∉ wr) ∧ (∀ b o, H.get? b = some o → s₂.heap.get? b = some o) ∧ CmpIn prog w A.in1 .Lt H P bt ∧ ∀ v s', P (argBest bt (n - 1)) v → Moved wr G s₂ s' → Q v s') E
      { s with heap := s.heap.push { cls := .type "tuple", data := .seq #[a, b] } }) :
    wpAny (model prog w) A (call (.builtin "min") [a, b]) Q E s := by
  have hname : (toString "min" ++ toString ".loop" : String) = "min.loop" := by decide
  refine call_function_tree F.kind_min F.plain_min F.entry_min (F.args_min2 _ _) ?_
  show wpAny _ A.in1 (Builtin.Builtins.bindParams "min" ["key", "default"] 0 ⟨[], []⟩ >>= _) _ _ s
  refine wpAny_bind (wpAny_of_eq (show Builtin.Builtins.bindParams "min" ["key", "default"] 0 ⟨[], []⟩ = pure [none, none] from rfl) ?_)
  show wpAny _ A.in1 (newTuple [a, b] >>= _) _ _ s
  refine wpAny_bind (wpAny_newObj_type ?_)
  refine wpAny_bind (wpAny_mono h (fun it s₂ h₂ => ?_) fun _ _ e => e)
  obtain ⟨I, fp, wr, G, n, P, St, H, bt, rfl, W, hst, hfp, hn, hw, hkeep, hcmp, hQ⟩ := h₂
  refine wpAny_bind (wpAny_newObj_type ?_)
  have hSf : s₂.heap.objs.size ∉ fp := fun hm => Nat.lt_irrefl _ (hfp _ hm)
  rw [hname]
  refine wpAny_pure ⟨plainId_quiet F.plain_min_loop _, codeAny_min_loop_firstH W H hw bt hcmp s₂.heap.objs.size hSf (fresh_in hkeep) _ hn (fun b o e => Heap.get?_push_of_some _ (hkeep b o e)) (W.frame 0 s₂ _ s₂.toks hst (Nat.le_refl _) fun b _ o e => Heap.get?_push_of_some _ e) (Heap.get?_push_size _ rfl) fun v s' hP hm => ?_⟩
  exact hQ v s' hP (Moved.drop_new (tk := s₂.toks) hm (Nat.le_refl _))
theorem max_two_data {a b : Value} {d e : PyData} {as bs : List Addr} {Q : Value → Shared → Prop} (hh : A.handled = none) (r1 : Reads s.heap a d as) (r2 : Reads s.heap b e bs) (ha : W.AlikeAll [d, e]) (hu : A.units + 1 + PyData.depthAll [d, e] < cLine)
    (h : ∀ h' tk, (∀ b o, s.heap.get? b = some o → h'.get? b = some o) → Q (if W.dataLt d e = true then b else a) { s with heap := h', toks := tk }) : wpAny (model prog w) A (call (.builtin "max") [a, b]) Q E s := by
  have hT : (s.heap.push { cls := .type "tuple", data := .seq #[a, b] }).IsTuple s.heap.objs.size #[a, b] := ⟨_, Heap.get?_push_size _ rfl, rfl, 0, rfl⟩
  have kp : ∀ c o, s.heap.get? c = some o → (s.heap.push { cls := .type "tuple", data := .seq #[a, b] }).get? c = some o := fun c o e => Heap.get?_push_of_some _ e
  have hr : ReadsAll (s.heap.push { cls := .type "tuple", data := .seq #[a, b] }) (#[a, b] : Array Value).toList [d, e] (as ++ (bs ++ [])) := .cons (Reads.keeps kp r1) (.cons (Reads.keeps kp r2) .nil)
  refine max_twoH (W.iter_tupleW (s := { s with heap := s.heap.push { cls := .type "tuple", data := .seq #[a, b] } }) (A := A.in1) hh hT fun s₂ e2 Wk st hfp hw hk => ?_)
  refine ⟨_, _, _, _, _, _, _, _, _, rfl, Wk, st, hfp, by simp, hw, hk, W.cmpIn_gt (s := { s with heap := s.heap.push { cls := .type "tuple", data := .seq #[a, b] } }) (A := A.in1) hr ha (by show A.units + 1 + _ < _; exact hu), fun v s' hP m => ?_⟩
  obtain ⟨h', tk, rfl, hk'⟩ := W.moved_old (s := { s with heap := s.heap.push { cls := .type "tuple", data := .seq #[a, b] } }) e2 rfl m
  have hv : v = if W.dataLt d e = true then b else a := by
    have hP' : (#[a, b] : Array Value)[argBest (fun i j => W.dataLt ([d, e].getD j .none) ([d, e].getD i .none)) 1]? = some v := hP
    by_cases c : W.dataLt d e = true
    · have e3 : argBest (fun i j => W.dataLt ([d, e].getD j .none) ([d, e].getD i .none)) 1 = 1 := by simp [argBest, c]
      rw [e3] at hP'
      rw [if_pos c]; simpa using hP'.symm
    · have e3 : argBest (fun i j => W.dataLt ([d, e].getD j .none) ([d, e].getD i .none)) 1 = 0 := by simp [argBest, c]
      rw [e3] at hP'
      rw [if_neg c]; simpa using hP'.symm
  rw [hv]
  exact h h' tk fun b o q => hk' b o (kp b o q)
theorem min_two_data {a b : Value} {d e : PyData} {as bs : List Addr} {Q : Value → Shared → Prop} (hh : A.handled = none) (r1 : Reads s.heap a d as) (r2 : Reads s.heap b e bs) (ha : W.AlikeAll [d, e]) (hu : A.units + 1 + PyData.depthAll [d, e] < cLine)
    (h : ∀ h' tk, (∀ b o, s.heap.get? b = some o → h'.get? b = some o) → Q (if W.dataLt e d = true then b else a) { s with heap := h', toks := tk }) : wpAny (model prog w) A (call (.builtin "min") [a, b]) Q E s := by
  have hT : (s.heap.push { cls := .type "tuple", data := .seq #[a, b] }).IsTuple s.heap.objs.size #[a, b] := ⟨_, Heap.get?_push_size _ rfl, rfl, 0, rfl⟩
  have kp : ∀ c o, s.heap.get? c = some o → (s.heap.push { cls := .type "tuple", data := .seq #[a, b] }).get? c = some o := fun c o e => Heap.get?_push_of_some _ e
  have hr : ReadsAll (s.heap.push { cls := .type "tuple", data := .seq #[a, b] }) (#[a, b] : Array Value).toList [d, e] (as ++ (bs ++ [])) := .cons (Reads.keeps kp r1) (.cons (Reads.keeps kp r2) .nil)
  refine min_twoH (W.iter_tupleW (s := { s with heap := s.heap.push { cls := .type "tuple", data := .seq #[a, b] } }) (A := A.in1) hh hT fun s₂ e2 Wk st hfp hw hk => ?_)
  refine ⟨_, _, _, _, _, _, _, _, _, rfl, Wk, st, hfp, by simp, hw, hk, W.cmpIn_lt (s := { s with heap := s.heap.push { cls := .type "tuple", data := .seq #[a, b] } }) (A := A.in1) hr ha (by show A.units + 1 + _ < _; exact hu), fun v s' hP m => ?_⟩
  obtain ⟨h', tk, rfl, hk'⟩ := W.moved_old (s := { s with heap := s.heap.push { cls := .type "tuple", data := .seq #[a, b] } }) e2 rfl m
  have hv : v = if W.dataLt e d = true then b else a := by
    have hP' : (#[a, b] : Array Value)[argBest (fun i j => W.dataLt ([d, e].getD i .none) ([d, e].getD j .none)) 1]? = some v := hP
    by_cases c : W.dataLt e d = true
    · have e3 : argBest (fun i j => W.dataLt ([d, e].getD i .none) ([d, e].getD j .none)) 1 = 1 := by simp [argBest, c]
      rw [e3] at hP'
      rw [if_pos c]; simpa using hP'.symm
    · have e3 : argBest (fun i j => W.dataLt ([d, e].getD i .none) ([d, e].getD j .none)) 1 = 0 := by simp [argBest, c]
      rw [e3] at hP'
      rw [if_neg c]; simpa using hP'.symm
  rw [hv]
  exact h h' tk fun b o q => hk' b o (kp b o q)
end
def rMM2 (mx : Bool) (K : PySem.W.Frag) : List V → Hp → VK → Prop := fun xs H Q => ∃ x y d e, xs = [x, y] ∧ Dp K H x d ∧ Dp K H y e ∧ W.AlikeAll [d, e] ∧ d.depth ≤ 64 ∧ e.depth ≤ 64 ∧ Q (if (if mx = true then W.dataLt d e else W.dataLt e d) = true then y else x) H
theorem callX_max2 {X : Cx} (hc : X.calm = true) (hu : X.A.units + 65 < cLine) : CallR X (.builtin "max") (rMM2 true X.K) := by
  intro pins s σ H xs us Q I r h
  obtain ⟨x, y, d, e, rfl, hd, he, al, z1, z2, q⟩ := h
  obtain ⟨u, u', rfl, r1, r2⟩ := vals2 r
  obtain ⟨as, k1⟩ := Dp.reads I d x u hd r1
  obtain ⟨bs, k2⟩ := Dp.reads I e y u' he r2
  refine max_two_data (I.ok.hd hc) k1 k2 al (by simp only [PyData.depthAll]; omega) fun h' tk k => ⟨_, H, I.kept k, ?_, q⟩
  by_cases c : W.dataLt d e = true
  · simp only [c, if_true]; exact r2
  · simp only [c, if_true]; exact r1
theorem callX_min2 {X : Cx} (hc : X.calm = true) (hu : X.A.units + 65 < cLine) : CallR X (.builtin "min") (rMM2 false X.K) := by
  intro pins s σ H xs us Q I r h
  obtain ⟨x, y, d, e, rfl, hd, he, al, z1, z2, q⟩ := h
  obtain ⟨u, u', rfl, r1, r2⟩ := vals2 r
  obtain ⟨as, k1⟩ := Dp.reads I d x u hd r1
  obtain ⟨bs, k2⟩ := Dp.reads I e y u' he r2
  refine min_two_data (I.ok.hd hc) k1 k2 al (by simp only [PyData.depthAll]; omega) fun h' tk k => ⟨_, H, I.kept k, ?_, q⟩
  by_cases c : W.dataLt e d = true
  · simp only [c, if_true]; exact r2
  · simp only [c, if_true]; exact r1
def mm2D (mx : Bool) : DF := fun ds Q => match ds with
  | [x, y] => x.lay = true ∧ y.lay = true ∧ W.AlikeAll [x.toP, y.toP] ∧ Q (if (if mx = true then W.dataLt x.toP y.toP else W.dataLt y.toP x.toP) = true then y else x)
  | _ => False
theorem cd_mm2 {K : PySem.W.Frag} {mx : Bool} : CallD K (rMM2 mx K) (mm2D mx) := fun F H xs ds Q0 Q s r q k => by
  rcases r with _ | ⟨r1, _ | ⟨r2, _ | ⟨_, _⟩⟩⟩ <;> first | exact q.elim | skip
  obtain ⟨h1, h2, h3, q⟩ := q
  refine ⟨_, _, _, _, rfl, r1.dp s (lay_and h1).1, r2.dp s (lay_and h2).1, h3, SeqAt.depth_of_shaped (lay_and h1).2, SeqAt.depth_of_shaped (lay_and h2).2, ?_⟩
  refine k _ H F _ (.refl s) ?_ q
  generalize (if mx = true then W.dataLt _ _ else W.dataLt _ _) = c
  cases c
  · exact r1
  · exact r2
theorem hu64 {k : Nat} {A : Around} (r : Room k A) : A.units + 64 < cLine := by
  have := r.un
  omega
/-- x[::-1] -/
def revD (x : D) (Q : D → Prop) : Prop := match x with
  | .lst ds => Q (.lst ds.reverse)
  | _ => False
def dRev (t : DE) : DE := fun ρ Q => t ρ fun x => revD x Q
theorem RpA.rev {K : PySem.W.Frag} {F : Hp} {xs : List V} {ds : List D} (r : RpA K F xs ds) : RpA K F xs.reverse ds.reverse := by
  induction r using RpA.rec (motive_1 := fun _ _ _ => True) with
  | nil => exact .nil
  | cons h _ _ ih =>
    rw [List.reverse_cons, List.reverse_cons]
    exact ih.append (.cons h .nil)
  | _ => trivial
/-- < of ints or of other data -/
def ltA : D2 := fun x y Q => ltI x y Q ∨ ltT x y Q
def gtA : D2 := fun x y Q => gtI x y Q ∨ gtT x y Q
def leA : D2 := fun x y Q => leI x y Q ∨ leT x y Q
def geA : D2 := fun x y Q => geI x y Q ∨ geT x y Q
def max2A : DF := fun ds Q => max2D ds Q ∨ mm2D true ds Q
def min2A : DF := fun ds Q => min2D ds Q ∨ mm2D false ds Q
theorem cd_or {K : PySem.W.Frag} {r r' : List V → Hp → VK → Prop} {g g' : DF} (h : CallD K r g) (h' : CallD K r' g') : CallD K (fun xs H Q => r xs H Q ∨ r' xs H Q) (fun ds Q => g ds Q ∨ g' ds Q) := fun F H xs ds Q0 Q s rx q k =>
  q.elim (fun z => .inl (h F H xs ds Q0 Q s rx z k)) (fun z => .inr (h' F H xs ds Q0 Q s rx z k))
end DV

namespace DV
open PySem PySem.Spec PyProof.Rows L2

/-! ### new lists of one's own as results -/
theorem Ext.noneBack {F H F' H' : Hp} (s : Sub F H) (x : Ext F H F' H') {p : Addr} (h : H' p = none) : H p = none := by
  cases e : H p with
  | none => rfl
  | some o =>
    cases f : F p with
    | none =>
      have := (x.keep p o f e).1
      rw [h] at this; cases this
    | some o' =>
      obtain ⟨u, q⟩ := (x.sub p o' (x.mono p o' f)).there
      rw [h] at q; cases q
theorem same_upd {F : Hp} {p : Addr} {o : HO} (h : F p = none) : Same F (upd F p o) := fun b x e => by rw [upd_ne (ne_of_none e h)]; exact e
def OwnV (K : PySem.W.Frag) (H F' H' : Hp) (v : V) (d : D) : Prop := (d.noLst = true ∧ Rp K F' v d) ∨ ∃ p : Addr, v = .ref p ∧ H p = none ∧ F' p = none ∧ OwnAt K F' H' p d
theorem OwnV.lst {K : PySem.W.Frag} {H F' H' : Hp} {p : Addr} {xs : List V} {ds : List D} (h0 : H p = none) (hF : F' p = none) (hp : H' p = some (.lst xs)) (r : RpA K F' xs ds) : OwnV K H F' H' (.ref p) (.lst ds) := .inr ⟨p, rfl, h0, hF, xs, hp, r⟩
theorem OwnV.back {K : PySem.W.Frag} {F H F1 H1 F' H' : Hp} {v : V} {d : D} (s : Sub F H) (x : Ext F H F1 H1) (o : OwnV K H1 F' H' v d) : OwnV K H F' H' v d := o.imp id fun ⟨p, e1, e2, r⟩ => ⟨p, e1, x.noneBack s e2, r⟩
def lfEo (K : PySem.W.Frag) (t : DE) : TE := fun σ H Q => ∃ ρ F Q0, Sub F H ∧ EnvOk K F H σ ρ ∧ t ρ Q0 ∧ ∀ v H' F' d, Ext F H F' H' → OwnV K H F' H' v d → Q0 d → Q v H'
abbrev PDo (X : Cx) (e : Expr) (t : DE) : Prop := PE X e (lfEo X.K t)
theorem PDo.pd {X : Cx} {e : Expr} {t : DE} (h : PDo X e t) : PD X e t := by
  refine ⟨fun pins s σ H Q I ⟨ρ, F, Q0, sb, en, ht, k⟩ => ?_⟩
  refine thn (h.run pins s σ H (fun v H' => ∃ F' d, Ext F H F' H' ∧ OwnV X.K H F' H' v d ∧ Q0 d) I ⟨ρ, F, Q0, sb, en, ht, fun v H' F' d x o q => ⟨F', d, x, o, q⟩⟩) fun v s1 ⟨x, H1, I1, r1, F1, d, x1, o, q⟩ => ?_
  rcases o with ⟨_, r⟩ | ⟨p, rfl, h0, hF, o⟩
  · exact ⟨x, H1, I1, r1, k _ _ _ _ x1 r q⟩
  · obtain ⟨_, u, _, _, _, I2, x2, r2⟩ := own_freeze I1 x1 h0 hF o
    exact ⟨_, _, I2, r1, k _ _ _ _ x2 r2 q⟩
section
variable {X : Cx} {e a b c : Expr} {es : List Expr} {st : Stmt} {t ta tb tc : DE} {tr : DA} {tA : DT} {u : DS} {pos p : Pos}
def CallDo (K : PySem.W.Frag) (r : List V → Hp → VK → Prop) (g : DF) : Prop := ∀ (F H : Hp) (xs : List V) (ds : List D) (Q0 : D → Prop) (Q : VK), Sub F H → RpA K F xs ds → g ds Q0 → (∀ v H' F' d, Ext F H F' H' → OwnV K H F' H' v d → Q0 d → Q v H') → r xs H Q
theorem lf_cbo {K : PySem.W.Frag} {r : List V → Hp → VK → Prop} {g : DF} (h : CallDo K r g) : ∀ σ H Q, lfEo K (dB g tr) σ H Q → tCB r (lfA K tr) σ H Q := fun σ H Q ⟨ρ, F, Q0, s, en, ht, k⟩ =>
  ⟨ρ, F, _, s, en, ht, fun vs H1 F1 ds x1 r q => h F1 H1 vs ds Q0 Q x1.sub r q fun v H' F' d x2 o q2 => k v H' F' d (x1.trans x2) (o.back s x1) q2⟩
theorem pdo_cb {nm : Str} {id : String} {r : List V → Hp → VK → Prop} {g : DF} (hc : CallR X (.builtin id) r) (h : CallDo X.K r g) (hm : X.mg nm = none) (hv : bootBuiltins nm = some (.builtin id)) (ha : PDA X (e :: es) tr) (hg : Gl X nm := by rfl) (hn : nm ≠ "__name__" := by decide) (hdb : (nm == ("__debug__" : Str)) = false := by decide)
    (he : starEach (e :: es) X.env = (false, eval e X.env) :: starEach es X.env := by rfl) (hpl : (backTo pos (starEach es X.env)).any (·.1) = false := by rfl) : PDo X (.Call (.Name nm p) (e :: es) [] pos) (dB g tr) := by
  refine PE.impD (t := tCB r (lfA X.K tr)) ?_ (lf_cbo h)
  exact pe_callB hc hg hm hv ha hn hdb he hpl
theorem pdo_ct {nm : Str} {T : String} {r : List V → Hp → VK → Prop} {g : DF} (hc : CallR X (.type T) r) (h : CallDo X.K r g) (hm : X.mg nm = none) (hv : bootBuiltins nm = some (.type T)) (ha : PDA X (e :: es) tr) (hg : Gl X nm := by rfl) (hn : nm ≠ "__name__" := by decide) (hdb : (nm == ("__debug__" : Str)) = false := by decide)
    (he : starEach (e :: es) X.env = (false, eval e X.env) :: starEach es X.env := by rfl) (hpl : (backTo pos (starEach es X.env)).any (·.1) = false := by rfl) : PDo X (.Call (.Name nm p) (e :: es) [] pos) (dB g tr) := by
  refine PE.impD (t := tCB r (lfA X.K tr)) ?_ (lf_cbo h)
  exact pe_callTy hc hg hm hv ha hn hdb he hpl
/-! ### defs that hand back new lists -/
def spO (K : PySem.W.Frag) (f : DSp) : Sp := fun vs H Q _ => ∃ F ds Q0, Sub F H ∧ RpA K F vs ds ∧ f ds Q0 ∧ ∀ v H' F' d, Ext F H F' H' → OwnV K H F' H' v d → Q0 d → Q v H'
def rtNl (Q : D → Prop) (d : D) : Prop := d.noLst = true ∧ Q d
/-- a def of m parameters, n names, that hands back new lists or what holds none -/
def fnO (n m : Nat) (t : DS) : DSp := fun ds Q => ds.length = m ∧ t ⟨fun _ => Q .non, rtNl Q, fun _ => False, fun _ => False, Q⟩ (ds.map Slot.v ++ List.replicate (n - m) Slot.un)
end
section
variable {P : Program} {w : World} {K : PySem.W.Frag} {mg : Str → Option Value} {base : Heap}
theorem fn_okO {x qual : Str} {params : Arguments} {body : List Stmt} {scope : Scope} {dvs : List V} {kws : List (Str × V)} {f : Addr} {fd : FuncData} {N ps : List Str} {k : Nat} {t : DS}
    (F : FunD K x qual params body scope dvs kws f fd) (S : FnScope N ps scope)
    (hb : ∀ (cdv : Value) (A : Around) (outer : List Env) (s : Shared) (H : Hp) (E : XK), Room k (A.deeper (envOfC qual scope s.heap.objs.size f cdv)) → PDSs (cxOf CX0 P w K mg base N qual scope f cdv A outer s H E).nox body t) :
    FnOk P w K mg base CX0 (k + 1) f fd ps (spO K (fnO N.length ps.length t)) := by
  refine F.ok S (fun vs H Q E h => ?_) (fun cdv A outer s H vs Q E hr h => ⟨_, PSs.nox (hb cdv A outer s H E hr), ?_⟩)
  · obtain ⟨F, ds, Q0, _, r, h, _⟩ := h
    rw [r.length]; exact h.1
  · obtain ⟨F, ds, Q0, sb, r, h, q⟩ := h
    have en : EnvOk K F H (L2.start N vs) (ds.map Slot.v ++ List.replicate (N.length - ds.length) Slot.un) := env_start r
    rw [h.1] at en
    refine ⟨F, H, F, _, _, ⟨F, ⟨sb, Same.refl F, .refl sb, en, fun i p d h1 h2 => ?_⟩⟩, h.2, ⟨fun σ' H' ρ' ⟨F', s'⟩ z => q .non H' F' .non s'.ext (.inl ⟨rfl, .non⟩) z, fun v H' F' d x r z => q v H' F' d x (.inl ⟨z.1, r⟩) z.2, fun p d H' F' x h0 hF o z => q (.ref p) H' F' d x (.inr ⟨p, rfl, h0, hF, o⟩) z, fun _ _ _ _ z => z.elim, fun _ _ _ _ z => z.elim⟩⟩
    have hm := List.mem_of_getElem? h2
    rcases List.mem_append.mp hm with z | z
    · obtain ⟨d', _, z⟩ := List.mem_map.mp z
      cases z
    · cases (List.mem_replicate.mp z).2
end
/-- such a def as its callers see it -/
def GdO (P : Program) (w : World) (K : PySem.W.Frag) (mg : Str → Option Value) (base : Heap) (nm : Str) (k : Nat) (dd : List D) (f : DSp) : Prop :=
  ∃ (a : Addr) (fd : FuncData) (ps : List Str) (ds : List Value) (dvs : List V), mg nm = some (.ref a) ∧ PySem.W.keepIn K (.ref a) = true ∧ FnOk P w K mg base CX0 k a fd ps (spO K f) ∧ Binds K fd ps ds ∧ Vals dvs ds ∧ ∀ F, RpA K F dvs dd
theorem mkGdO {P : Program} {w : World} {K : PySem.W.Frag} {mg : Str → Option Value} {base : Heap} {nm : Str} {k : Nat} {dd : List D} {f : DSp} {a : Addr} {fd : FuncData} {ps : List Str} (hm : mg nm = some (.ref a)) (hk : PySem.W.keepIn K (.ref a) = true) (F : FnOk P w K mg base CX0 k a fd ps (spO K f))
    {dvs : List V} (b : ∃ ds, Vals dvs ds ∧ Binds K fd ps ds) (r : ∀ F, RpA K F dvs dd) : GdO P w K mg base nm k dd f := by
  obtain ⟨ds, h1, h2⟩ := b
  exact ⟨a, fd, ps, ds, dvs, hm, hk, F, h2, h1, r⟩
section
variable {X : Cx} {e a b c : Expr} {es : List Expr} {st : Stmt} {t ta tb tc : DE} {tr : DA} {tA : DT} {u : DS} {pos p : Pos}
theorem pdo_call {nm : Str} {k : Nat} {dd : List D} {f : DSp} (G : GdO X.prog X.w X.K X.mg X.base nm k dd f) (hr : Room k X.A) (ha : PDA X (e :: es) tr) (hg : Gl X nm := by rfl) (hdb : (nm == ("__debug__" : Str)) = false := by decide)
    (he : starEach (e :: es) X.env = (false, eval e X.env) :: starEach es X.env := by rfl) (hpl : (backTo pos (starEach es X.env)).any (·.1) = false := by rfl) : PDo X (.Call (.Name nm p) (e :: es) [] pos) (dCall f dd tr) := by
  obtain ⟨a, fd, ps, ds, dvs, hm, hk, F, hb, hd, hdd⟩ := G
  refine (pe_call F hr hg hm hk hb hd pass0 ha hdb he hpl).impD fun σ H Q ⟨ρ, F, Q0, s, en, ht, k⟩ => ⟨ρ, F, _, s, en, ht, fun vs H1 F1 ds x1 r q => ?_⟩
  exact ⟨F1, _, Q0, x1.sub, r.append (hdd F1), q, fun v H' F' d x2 o q2 => k v H' F' d (x1.trans x2) (o.back s x1) q2⟩
def ownS : D → Slot
  | .lst ds => .own (.lst ds)
  | .dic ds => .own (.dic ds)
  | d => .v d
theorem ownS_own {K : PySem.W.Frag} {F H : Hp} {p : Addr} {d : D} (o : OwnAt K F H p d) : ownS d = .own d := by
  cases d <;> first | exact o.elim | rfl
theorem ownS_nl {d : D} (h : d.noLst = true) : ownS d = .v d := by
  cases d <;> first | rfl | (simp [D.noLst] at h; done)
/-- a new list comes to a name -/
theorem Sta.setNew {K : PySem.W.Frag} {F0 H0 G F F' H H' : Hp} {σ : St} {ρ : List Slot} (s : Sta K F0 H0 G F σ H ρ) (x : Ext F H F' H') (i : Nat) {p : Addr} {d : D} (h0 : H p = none) (hF : F' p = none) (o : OwnAt K F' H' p d) :
    Sta K F0 H0 G F' (σ.set i (some (.ref p))) H' (ρ.set i (.own d)) := by
  have s' := s.step x
  have en := s'.env
  have old : ∀ {j : Nat} {q : Addr} {d : D}, σ[j]? = some (some (.ref q)) → ρ[j]? = some (Slot.own d) → q ≠ p := fun {j q d} h1 h2 z => by
    obtain ⟨y, e1, p', e2, _, o⟩ := s.env.at_ j _ h2
    rw [h1] at e1; cases e1; cases e2
    obtain ⟨u, hu⟩ := o.there
    rw [z, h0] at hu; cases hu
  refine ⟨s.bse, s'.pin, s'.ext, ⟨by simp [en.len], fun j sl e => ?_, fun a b q d e hab h1 h2 h3 h4 => ?_⟩, fun j q d h1 h2 => ?_⟩
  · by_cases hj : j = i
    · subst hj
      have hl : j < ρ.length := by
        have := (List.getElem?_eq_some_iff.mp e).1
        simpa using this
      rw [List.getElem?_set_self hl] at e
      cases e
      exact ⟨_, by rw [List.getElem?_set_self (by rw [en.len]; exact hl)], p, rfl, hF, o⟩
    · rw [List.getElem?_set_ne (Ne.symm hj)] at e ⊢
      exact en.at_ j sl e
  · have self : ∀ {q : Addr}, (σ.set i (some (V.ref p)))[i]? = some (some (.ref q)) → q = p := fun {q} h => by
      have hl : i < (σ.set i (some (V.ref p))).length := (List.getElem?_eq_some_iff.mp h).1
      rw [List.getElem?_set_self (by simpa using hl)] at h
      cases h; rfl
    by_cases ha : a = i
    · subst ha
      have nb := Ne.symm hab
      rw [List.getElem?_set_ne (Ne.symm nb)] at h3 h4
      exact old h3 h4 (self h1)
    · rw [List.getElem?_set_ne (Ne.symm ha)] at h1 h2
      by_cases hb : b = i
      · subst hb
        exact old h1 h2 (self h3)
      · rw [List.getElem?_set_ne (Ne.symm hb)] at h3 h4
        exact en.sep a b q d e hab h1 h2 h3 h4
  · by_cases hj : j = i
    · subst hj
      have hl : j < (σ.set j (some (V.ref p))).length := (List.getElem?_eq_some_iff.mp h1).1
      rw [List.getElem?_set_self (by simpa using hl)] at h1
      cases h1
      exact s.ext.noneBack s.bse h0
    · rw [List.getElem?_set_ne (Ne.symm hj)] at h1 h2
      exact s.own j q d h1 h2
def sSetO (i : Nat) (t : DE) : DS := fun N ρ => t ρ fun d => N.nx (ρ.set i (ownS d))
theorem pds_setO {i : Nat} {x : Str} {pos' : Pos} (hN : X.N.Nodup) (hi : X.N[i]? = some x) (hx : Loc X.env.scope x) (he : PDo X e t) (hs : swapsWith e (some (.Name x pos')) pos.line X.env = pure false := by rfl)
    (hf : X.fn x = true ∨ X.env.scope.names.lookup x = some .local := by first | exact .inl rfl | exact .inr rfl | assumption) : PDS X (.Assign [.Name x pos'] e pos) (sSetO i t) := (ps_set hN hi hx he hs hf).impD fun N σ H ⟨F0, H0, G, ρ, M, ⟨F, so⟩, ht, k⟩ =>
  ⟨ρ, F, _, so.ext.sub, so.env, ht, fun v H' F' d x o q => by
    rcases o with ⟨n, r⟩ | ⟨p, rfl, h0, hF, o⟩
    · rw [ownS_nl n] at q
      exact k.nx _ _ _ ⟨F', (so.step x).set i r⟩ q
    · rw [ownS_own o] at q
      exact k.nx _ _ _ ⟨F', so.setNew x i h0 hF o⟩ q⟩
/-- a new list is handed back -/
def sRetO (t : DE) : DS := fun N ρ => t ρ fun d => if d.noLst = true then N.rt d else N.ro d
theorem pds_retO (he : PDo X e t) : PDS X (.Return (some e) pos) (sRetO t) := (ps_ret he).impD fun N σ H ⟨F0, H0, G, ρ, M, ⟨F, so⟩, ht, k⟩ =>
  ⟨ρ, F, _, so.ext.sub, so.env, ht, fun v H' F' d x o q => by
    have x' := so.ext.trans x
    rcases o with ⟨n, r⟩ | ⟨p, rfl, h0, hF, o⟩
    · rw [if_pos n] at q
      exact k.rt v H' F' d x' r q
    · have n : ¬d.noLst = true := by cases d <;> first | exact o.elim | simp [D.noLst]
      rw [if_neg n] at q
      exact k.ro p d H' F' x' (so.ext.noneBack so.bse h0) hF o q⟩

/-! ### own things are read for a while -/
theorem EnvOk.frz {K : PySem.W.Frag} {F H : Hp} {σ : St} {ρ : List Slot} (en : EnvOk K F H σ ρ) {i : Nat} {p : Addr} {d : D} {u : HO} (e1 : σ[i]? = some (some (.ref p))) (hi : ρ[i]? = some (.own d)) (hF : F p = none) (r : Rp K (upd F p u) (.ref p) d) : EnvOk K (upd F p u) (upd H p u) σ (ρ.set i (.v d)) := by
  have m : Same F (upd F p u) := same_upd hF
  have hl : i < ρ.length := (List.getElem?_eq_some_iff.mp hi).1
  refine ⟨by simp [en.len], fun j sl e => ?_, fun a b q d' e hab a1 a2 a3 a4 => ?_⟩
  · by_cases hj : j = i
    · subst hj
      rw [List.getElem?_set_self hl] at e
      cases e
      exact ⟨_, e1, _, rfl, r⟩
    · rw [List.getElem?_set_ne (Ne.symm hj)] at e
      obtain ⟨x, e3, ok⟩ := en.at_ j sl e
      refine ⟨x, e3, ?_⟩
      cases sl with
      | un => exact True.intro
      | v d =>
        obtain ⟨v, e4, r4⟩ := ok
        exact ⟨v, e4, r4.mono m⟩
      | tg u d => exact ⟨ok.1, ok.2.mono m⟩
      | tb T => exact TabF.mono ok m
      | own d' =>
        obtain ⟨q, e4, hq, o⟩ := ok
        subst e4
        have nq : q ≠ p := fun z => by
          subst z
          exact en.sep j i q d' _ hj e3 e e1 hi
        exact ⟨q, rfl, by rw [upd_ne nq]; exact hq, o.mono m fun u z => by rw [upd_ne nq]; exact z⟩
  · have ne : ∀ {a : Nat} {d' : D}, (ρ.set i (Slot.v d))[a]? = some (Slot.own d') → a ≠ i := fun {a d'} q z => by
      subst z
      rw [List.getElem?_set_self hl] at q; cases q
    have na := ne a2
    have nb := ne a4
    rw [List.getElem?_set_ne (Ne.symm na)] at a2
    rw [List.getElem?_set_ne (Ne.symm nb)] at a4
    exact en.sep a b q _ _ hab a1 a2 a3 a4
def delH (F : Hp) (p : Addr) : Hp := fun a => if a = p then none else F a
theorem delH_same {F : Hp} {p : Addr} : delH F p p = none := if_pos rfl
theorem delH_ne {F : Hp} {a p : Addr} (h : a ≠ p) : delH F p a = F a := if_neg h
theorem FrzOf.mutb {u0 u : HO} (z : FrzOf u0 u) : Mutb u := by
  rcases z with ⟨xs, _, rfl⟩ | ⟨od, rfl, _, k⟩
  · exact .inl ⟨xs, rfl⟩
  · exact .inr ⟨od, u0, rfl, k⟩
theorem FrzOf.noMark {u0 u : HO} (z : FrzOf u0 u) {b : Addr} {o : HO} (l : Lasting b o) : u ≠ o := by
  rcases l with rfl | ⟨q, rfl⟩
  · rcases z with ⟨xs, _, rfl⟩ | ⟨od, rfl, _, _⟩ <;> exact fun z => nomatch z
  · unfold LamX.CodeO
    rcases z with ⟨xs, _, rfl⟩ | ⟨od, rfl, _, _⟩ <;> exact fun z => nomatch z
theorem FrzOf.std {u0 u : HO} (z : FrzOf u0 u) {F H : Hp} {p : Addr} (s : Stands F H p u) : H p = some u := by
  rcases z with ⟨xs, _, rfl⟩ | ⟨od, rfl, _, _⟩ <;> exact s
/-- what was lent is taken back -/
theorem unlend {F H F' H' : Hp} {p : Addr} {u0 u : HO} (z : FrzOf u0 u) (hF : F p = none) (hp : H p = some u0) (x : Ext (upd F p u) (upd H p u) F' H') : H' p = some u ∧ Ext F H (delH F' p) (upd H' p u0) ∧ ButLst F' (delH F' p) := by
  have fp : F' p = some u := x.mono p _ upd_same
  have hp' : H' p = some u := z.std (x.sub p _ fp)
  refine ⟨hp', ⟨fun a o e => ?_, fun a o e q => ?_, fun a o e => ?_⟩, fun a o e => ?_⟩
  · have na : a ≠ p := ne_of_none e hF
    rw [delH_ne na]
    exact x.mono a o (by rw [upd_ne na]; exact e)
  · by_cases h : a = p
    · subst h
      rw [hp] at q; cases q
      exact ⟨upd_same, delH_same⟩
    · rw [upd_ne h, delH_ne h]
      exact x.keep a o (by rw [upd_ne h]; exact e) (by rw [upd_ne h]; exact q)
  · by_cases h : a = p
    · subst h
      rw [delH_same] at e; cases e
    · rw [delH_ne h] at e
      refine (x.sub a o e).monoM (fun b o lo e2 => ?_) fun u q => by rw [upd_ne h]; exact q
      have nb : b ≠ p := fun y => by
        rw [y, fp] at e2
        exact z.noMark lo (Option.some.inj e2)
      rw [delH_ne nb]; exact e2
  · by_cases h : a = p
    · subst h
      rw [fp] at e; cases e
      exact .inr z.mutb
    · exact .inl (by rw [delH_ne h]; exact e)
def dBorT (i : Nat) (t : DT) : DT := fun ρ Q => t (frz i ρ) Q
def dBor (i : Nat) (t : DE) : DE := fun ρ Q => t (frz i ρ) fun d => d.noLst = true ∧ Q d
def dBorA (i : Nat) (t : DA) : DA := fun ρ Q => t (frz i ρ) fun ds => D.noLsts ds = true ∧ Q ds
theorem pdt_bor (i : Nat) (h : PDT X c tA) : PDT X c (dBorT i tA) := by
  refine ⟨fun pins s σ H Q I ⟨ρ, F, Q0, sb, en, ht, k⟩ => ?_⟩
  unfold dBorT DV.frz at ht
  have same : tA ρ Q0 → lfT X.K tA σ H Q := fun z => ⟨ρ, F, Q0, sb, en, z, k⟩
  cases hi : ρ[i]? with
  | none => rw [hi] at ht; exact h.run pins s σ H Q I (same ht)
  | some sl =>
    rw [hi] at ht
    cases sl with
    | un => exact h.run pins s σ H Q I (same ht)
    | v d => exact h.run pins s σ H Q I (same ht)
    | tg u d => exact h.run pins s σ H Q I (same ht)
    | tb T => exact h.run pins s σ H Q I (same ht)
    | own d0 =>
      obtain ⟨y, e1, p, e2, hF, o⟩ := en.at_ i _ hi
      subst e2
      obtain ⟨u0, u, hp, z, n, I1, x1, r1⟩ := own_freeze I (Ext.mk (F := fun _ => none) (H := fun _ => none) (fun _ _ e => (nomatch e)) (fun _ _ _ e => (nomatch e)) sb) rfl hF o
      refine thn (h.run pins s σ _ (fun b H' => ∃ F', Ext (upd F p u) (upd H p u) F' H' ∧ Q0 b) I1 ⟨ρ.set i (.v d0), upd F p u, Q0, x1.sub, en.frz e1 hi hF r1, ht, fun b H' F' x q => ⟨F', x, q⟩⟩) fun b s1 ⟨H1, I2, F1, x2, q⟩ => ?_
      obtain ⟨k1, k2, _⟩ := unlend z hF hp x2
      exact ⟨_, own_thaw I2 k1 z n, k _ _ _ k2 q⟩
theorem pd_bor (i : Nat) (h : PD X e t) : PD X e (dBor i t) := by
  refine ⟨fun pins s σ H Q I ⟨ρ, F, Q0, sb, en, ht, k⟩ => ?_⟩
  unfold dBor DV.frz at ht
  have same : t ρ (fun d => d.noLst = true ∧ Q0 d) → lfE X.K t σ H Q := fun z => ⟨ρ, F, _, sb, en, z, fun v H' F' d x r q => k v H' F' d x r q.2⟩
  cases hi : ρ[i]? with
  | none => rw [hi] at ht; exact h.run pins s σ H Q I (same ht)
  | some sl =>
    rw [hi] at ht
    cases sl with
    | un => exact h.run pins s σ H Q I (same ht)
    | v d => exact h.run pins s σ H Q I (same ht)
    | tg u d => exact h.run pins s σ H Q I (same ht)
    | tb T => exact h.run pins s σ H Q I (same ht)
    | own d0 =>
      obtain ⟨y, e1, p, e2, hF, o⟩ := en.at_ i _ hi
      subst e2
      obtain ⟨u0, u, hp, z, n, I1, x1, r1⟩ := own_freeze I (Ext.mk (F := fun _ => none) (H := fun _ => none) (fun _ _ e => (nomatch e)) (fun _ _ _ e => (nomatch e)) sb) rfl hF o
      refine thn (h.run pins s σ _ (fun v H' => ∃ F' d, Ext (upd F p u) (upd H p u) F' H' ∧ Rp X.K F' v d ∧ d.noLst = true ∧ Q0 d) I1 ⟨ρ.set i (.v d0), upd F p u, _, x1.sub, en.frz e1 hi hF r1, ht, fun v H' F' d x r q => ⟨F', d, x, r, q.1, q.2⟩⟩) fun w s1 ⟨v, H1, I2, rv, F1, d, x2, r2, q1, q⟩ => ?_
      obtain ⟨k1, k2, k3⟩ := unlend z hF hp x2
      exact ⟨v, _, own_thaw I2 k1 z n, rv, k _ _ _ _ k2 (r2.but k3 q1) q⟩
end
section
variable {X : Cx} {elt tg iter : Expr} {ifs : List Expr} {scope : Scope} {own : List (Str × Nat)} {pos : Pos} {it : DI} {g : TG} {g' : DG} {tt : DT} {te : DE}
theorem lf_lco (hG : RelG X.K (own.map (·.2)) g g') : ∀ σ H Q, lfEo X.K (dLc it g' tt te (own.map (·.2))) σ H Q → tLc (lfI X.K it) g (lfT X.K tt) (lfE X.K te) (own.map (·.2)) σ H Q := fun σ H Q ⟨ρ, F, Q0, s, en, ht, k⟩ => by
  refine ⟨ρ, F, _, s, en, ht, fun J H1 F1 ds x1 io q Dd hD => ?_⟩
  have en1 := en.mono x1
  have hF1 := x1.sub.none hD
  refine ⟨fun i m H' => m = ds.length - i ∧ i ≤ ds.length ∧ ∃ F' acc xs, Ext F1 H1 F' H' ∧ F' Dd = none ∧ H' Dd = some (.lst xs) ∧ RpA X.K F' xs acc ∧ lcD g' tt te (wipeD ρ (own.map (·.2))) (ds.drop i) acc Q0,
    ⟨ds.length, rfl, Nat.zero_le _, F1, [], [], Ext.newO x1.sub hD, hF1, upd_same, .nil, q⟩, fun i m H' hW => ?_⟩
  obtain ⟨rfl, hle, F', acc, xs, x2, hF', hH', ra, q'⟩ := hW
  obtain ⟨h1, h2⟩ := io F' H' x2.mono x2.sub i
  by_cases hi : i < ds.length
  · obtain ⟨go, hy⟩ := h1 hi
    refine .inr ⟨go, fun H'' => ∃ F' acc xs, Ext F1 H1 F' H'' ∧ F' Dd = none ∧ H'' Dd = some (.lst xs) ∧ RpA X.K F' xs acc ∧ lcD g' tt te (wipeD ρ (own.map (·.2))) (ds.drop (i + 1)) acc Q0,
      fun H'' hN => ⟨ds.length - (i + 1), by omega, rfl, hi, hN⟩, fun x H2 hyx => ?_⟩
    obtain ⟨F2, d, x3, ed, rd⟩ := hy x H2 hyx
    rw [drop_cons ed] at q'
    have x23 := x2.trans x3
    have D2 := x3.keep Dd _ hF' hH'
    refine hG _ _ _ _ _ _ _ _ _ _ _ (Sta.empty x23.sub ((en1.mono x23).wipe _)) rd q' fun σ3 ρ3 s3 hw q3 => ⟨hw.trans (by
      have ww : ∀ (vs : List Nat) (σ : St), L2.wipe (L2.wipe σ vs) vs = L2.wipe σ vs := by
        intro vs σ
        have aux : ∀ (us : List Nat), (∀ u ∈ us, u ∈ vs) → L2.wipe (L2.wipe σ us) vs = L2.wipe σ vs := by
          intro us
          induction us with
          | nil => intro _; rfl
          | cons u r ih =>
            intro hu
            show L2.wipe ((L2.wipe σ r).set u none) vs = _
            rw [wipe_at (hu u List.mem_cons_self)]
            exact ih fun v hv => hu v (List.mem_cons_of_mem _ hv)
        exact aux vs fun u hu => hu
      exact ww _ _), ρ3, F2, _, s3.ext.sub, s3.env, q3, fun b H3 F3 x4 q4 => ?_⟩
    have x24 := x23.trans x4
    have D3 := x4.keep Dd _ D2.2 D2.1
    cases b with
    | false => exact iteF ⟨F3, acc, xs, x24, D3.2, D3.1, ra.mono (x3.mono.trans x4.mono), q4⟩
    | true =>
      refine iteT ⟨ρ3, F3, _, x4.sub, s3.env.mono x4, q4, fun y H4 F4 dy x5 ry q5 => ?_⟩
      have x25 := x24.trans x5
      have D4 := x5.keep Dd _ D3.2 D3.1
      have ra4 := ra.mono ((x3.mono.trans x4.mono).trans x5.mono)
      refine ⟨xs, D4.1, by rw [ra.length]; exact q5.1, F4, acc ++ [dy], xs ++ [y], ⟨x25.mono, fun a o e z => ?_, Ext.own x25.sub D4.2⟩, D4.2, upd_same, ra4.append (.cons ry .nil), q5.2⟩
      rw [upd_ne (ne_of_none z hD)]
      exact x25.keep a o e z
  · refine .inl ⟨h2 (by omega), ?_⟩
    have e : ds.drop i = [] := List.drop_eq_nil_of_le (by omega)
    rw [e] at q'
    exact k _ _ _ _ (x1.trans x2) (OwnV.lst (x1.noneBack s hD) hF' hH' ra) q'
theorem pdo_lc (hG : RelG X.K (own.map (·.2)) g g') (hc : X.calm = true) (hN : X.N.Nodup) (hi : PDI X tg iter it) (ok : BlkOk X.N X.env.scope scope own)
    (hg : ∀ (s : Shared) (H : Hp) (C : Addr) (cl : List (Str × Addr)) (fp : List Addr), PG (X.blk s H scope (compEnvC scope cl C X.env) fp) tg g)
    (ht : ∀ (s : Shared) (H : Hp) (C : Addr) (cl : List (Str × Addr)) (fp : List Addr), PTs (X.blk s H scope (compEnvC scope cl C X.env) fp) ifs (lfT X.K tt))
    (he : ∀ (s : Shared) (H : Hp) (C : Addr) (cl : List (Str × Addr)) (fp : List Addr), PE (X.blk s H scope (compEnvC scope cl C X.env) fp) elt (lfE X.K te)) (hs : ∀ x, foldedSetIterable iter X.env x = pure x := by intro _; rfl) :
    PDo X (.ListComp elt [⟨tg, iter, ifs, 0⟩] scope pos) (dLc it g' tt te (own.map (·.2))) := (pe_lc hc hN hi ok hg ht he hs).impD (lf_lco hG)
end

/-! ### an own list lent over a statement -/
def tagS (u : V) : Slot → Slot
  | .v d => .tg u d
  | s => s
def tagAll (vs : Nat → V) : Nat → List Slot → List Slot
  | _, [] => []
  | j, s :: ρ => tagS (vs j) s :: tagAll vs (j + 1) ρ
open Classical in
noncomputable def backS (isI : Bool) (u : V) (s : Slot) : Slot → Slot
  | .tg w _ => match s with
    | .v d => if w = u then .v d else .un
    | .tg w0 d => if w = w0 then .tg w0 d else .un
    | .own d => if isI = true ∧ w = u then .own d else .un
    | .un => .un
    | .tb _ => .un
  | .tb T => .tb T
  | .v d => if d.noLst = true then .v d else .un
  | .own (.lst ds) => if D.noLsts ds = true then .own (.lst ds) else .un
  | .own (.dic ds) => if D.noLsts (ds.map (·.2)) = true then .own (.dic ds) else .un
  | _ => .un
noncomputable def backAll (vs : Nat → V) (i : Nat) : Nat → List Slot → List Slot → List Slot
  | j, s :: ρ, s' :: ρ' => backS (decide (j = i)) (vs j) s s' :: backAll vs i (j + 1) ρ ρ'
  | _, _, _ => []
def sLend (i : Nat) (t : DS) : DS := fun N ρ => match ρ[i]? with
  | some (.own d) => ∀ vs : Nat → V, t { N with
      nx := fun ρ' => ρ'[i]? = some (.tg (vs i) d) ∧ ρ.length = ρ'.length ∧ N.nx (backAll vs i 0 ρ ρ'),
      bk := fun ρ' => ρ'[i]? = some (.tg (vs i) d) ∧ ρ.length = ρ'.length ∧ N.bk (backAll vs i 0 ρ ρ'),
      ct := fun ρ' => ρ'[i]? = some (.tg (vs i) d) ∧ ρ.length = ρ'.length ∧ N.ct (backAll vs i 0 ρ ρ') } (tagAll vs 0 (ρ.set i (.v d)))
  | _ => False
mutual
theorem kin_nl : ∀ {d : D}, d.kin = true → d.noLst = true
  | .int i, _ => rfl
  | .tup ds, h => by
    simp only [D.kin] at h
    simp only [D.noLst]
    exact kins_nl h
  | .non, h => by simp [D.kin] at h
  | .bl _, h => by simp [D.kin] at h
  | .str _, h => by simp [D.kin] at h
  | .lst _, h => by simp [D.kin] at h
  | .dic _, h => by simp [D.kin] at h
  | .bag, h => by simp [D.kin] at h
  | .scr, h => by simp [D.kin] at h
theorem kins_nl : ∀ {ds : List D}, D.kins ds = true → D.noLsts ds = true
  | [], _ => rfl
  | d :: ds, h => by
    simp only [D.kins, Bool.and_eq_true] at h
    simp only [D.noLsts, Bool.and_eq_true]
    exact ⟨kin_nl h.1, kins_nl h.2⟩
end
theorem keys_nl : ∀ {kvs : List (D × D)}, (∀ q ∈ kvs, q.1.kok = true) → D.noLsts (kvs.map (·.1)) = true
  | [], _ => rfl
  | q :: kvs, h => by
    simp only [List.map_cons, D.noLsts, Bool.and_eq_true]
    exact ⟨kin_nl (kok_kin (h q List.mem_cons_self)), keys_nl fun q' h' => h q' (List.mem_cons_of_mem _ h')⟩
theorem OwnAt.but {K : PySem.W.Frag} {F F' H H' : Hp} (m : ButLst F F') {p : Addr} (k : ∀ u, H p = some u → H' p = some u) : ∀ {d : D}, (match d with
    | .lst ds => D.noLsts ds = true
    | .dic ds => D.noLsts (ds.map (·.2)) = true
    | _ => True) → OwnAt K F H p d → OwnAt K F' H' p d
  | .lst ds, n, ⟨xs, e, r⟩ => ⟨xs, k _ e, r.but m n⟩
  | .dic kvs, n, .inl ⟨ks, e, r, q⟩ => .inl ⟨ks, k _ e, r.but m n, q⟩
  | .dic kvs, n, .inr ⟨rows, e, q0, q1, q2, r1, r2⟩ => .inr ⟨rows, k _ e, q0, q1, q2, r1.but m (keys_nl q2), r2.but m n⟩
end DV

namespace DV
open PySem PySem.Spec PyProof.Rows L2

/-! ### dicts as data -/
def dgetD (kvs : List (D × D)) (k : D) : Option D := (kvs.find? fun z => D.eqb z.1 k).map (·.2)
def dputD (kvs : List (D × D)) (k v : D) : List (D × D) := if (kvs.any fun z => D.eqb z.1 k) = true then kvs.map (fun z => if D.eqb z.1 k = true then (z.1, v) else z) else kvs ++ [(k, v)]
def D.flt : D → Bool
  | .int _ => true
  | .str _ => true
  | _ => false
/-- keys of one kind: numbers and texts, or tuples of numbers -/
def keyFor (kvs : List (D × D)) (x : D) : Prop := (x.flt = true ∧ ∀ q ∈ kvs, q.1.flt = true) ∨ (x.kok = true ∧ ∀ q ∈ kvs, q.1.kok = true)
mutual
theorem eqb_nb : ∀ {d e : D}, d.kin = true → e.kin = true → D.eqb d e = NestedKey.beq d.nk e.nk
  | .int i, .int j, _, _ => by
    simp only [D.eqb, D.nk, NestedKey.beq]
    rfl
  | .int i, .tup es, _, _ => by simp only [D.eqb, D.nk, NestedKey.beq]
  | .tup ds, .int j, _, _ => by simp only [D.eqb, D.nk, NestedKey.beq]
  | .tup ds, .tup es, h, g => by
    simp only [D.kin] at h g
    simp only [D.eqb, D.nk, NestedKey.beq]
    exact eqbs_nk h g
  | .non, _, h, _ => by simp [D.kin] at h
  | .bl _, _, h, _ => by simp [D.kin] at h
  | .str _, _, h, _ => by simp [D.kin] at h
  | .lst _, _, h, _ => by simp [D.kin] at h
  | .dic _, _, h, _ => by simp [D.kin] at h
  | .bag, _, h, _ => by simp [D.kin] at h
  | .scr, _, h, _ => by simp [D.kin] at h
  | .int _, .non, _, h => by simp [D.kin] at h
  | .int _, .bl _, _, h => by simp [D.kin] at h
  | .int _, .str _, _, h => by simp [D.kin] at h
  | .int _, .lst _, _, h => by simp [D.kin] at h
  | .int _, .dic _, _, h => by simp [D.kin] at h
  | .int _, .bag, _, h => by simp [D.kin] at h
  | .int _, .scr, _, h => by simp [D.kin] at h
  | .tup _, .non, _, h => by simp [D.kin] at h
  | .tup _, .bl _, _, h => by simp [D.kin] at h
  | .tup _, .str _, _, h => by simp [D.kin] at h
  | .tup _, .lst _, _, h => by simp [D.kin] at h
  | .tup _, .dic _, _, h => by simp [D.kin] at h
  | .tup _, .bag, _, h => by simp [D.kin] at h
  | .tup _, .scr, _, h => by simp [D.kin] at h
theorem eqbs_nk : ∀ {ds es : List D}, D.kins ds = true → D.kins es = true → D.eqbs ds es = NestedKey.beqAll (D.nks ds) (D.nks es)
  | [], [], _, _ => by simp only [D.eqbs, D.nks, NestedKey.beqAll]
  | [], _ :: _, _, _ => by simp only [D.eqbs, D.nks, NestedKey.beqAll]
  | _ :: _, [], _, _ => by simp only [D.eqbs, D.nks, NestedKey.beqAll]
  | d :: ds, e :: es, h, g => by
    simp only [D.kins, Bool.and_eq_true] at h g
    simp only [D.eqbs, D.nks, NestedKey.beqAll]
    rw [eqb_nb h.1 g.1, eqbs_nk h.2 g.2]
end
theorem eqb_nk {d e : D} (h : d.kin = true) (g : e.kin = true) : D.eqb d e = decide (d.nk = e.nk) := (eqb_nb h g).trans (NestedKey.decide_eq _ _).symm
theorem eqb_key (a b : L2.Key) : D.eqb (keyD a) (keyD b) = decide (a = b) := by
  rcases a with i | x <;> rcases b with j | y
  · show D.eqb (.int i) (.int j) = _
    simp only [D.eqb]
    by_cases h : i = j
    · subst h; simp
    · rw [decide_eq_false (by simpa using h)]; simpa using h
  · show D.eqb (.int i) (.str y) = _
    simp only [D.eqb]
    exact (decide_eq_false (by simp)).symm
  · show D.eqb (.str x) (.int j) = _
    simp only [D.eqb]
    exact (decide_eq_false (by simp)).symm
  · show D.eqb (.str x) (.str y) = _
    simp only [D.eqb]
    by_cases h : x = y
    · subst h; simp
    · rw [decide_eq_false (by simpa using h)]; simpa using h
theorem keyD_kok (k : L2.Key) : (keyD k).kok = false := by rcases k with i | x <;> rfl
theorem flt_key {d : D} (h : d.flt = true) : ∃ k : L2.Key, d = keyD k := by
  cases d <;> first | (simp [D.flt] at h; done) | skip
  · exact ⟨.inl _, rfl⟩
  · exact ⟨.inr _, rfl⟩
theorem kok_flt {d : D} (h : d.kok = true) : d.flt = false := by
  cases d <;> first | rfl | (simp [D.kok] at h; done)
section
variable {X : Cx} {pins : List (Addr × Obj)} {σ : L2.St} {F H : Hp} {s : Shared}
mutual
theorem nk_is (I : Inv X pins σ H s) (sb : Sub F H) : ∀ {d : D} {v : V} {u : Value}, d.kin = true → Rp X.K F v d → RelV v u → NestedIs s.heap d.nk u
  | .int i, _, u, _, .int _, e => by
    obtain ⟨t, rfl⟩ := (show ∃ t, u = Value.int i t from e)
    exact .int i t
  | .tup ds, _, u, h, .tup hs ra, e => by
    cases (show u = Value.ref _ from e)
    simp only [D.kin] at h
    obtain ⟨its, r, ⟨o, h1, h2, n, h3⟩, _⟩ := I.tuple (sb.seqT hs)
    exact .tup h1 h2 h3 (by simpa using nks_is I sb h ra r)
  | .non, _, _, h, _, _ => by simp [D.kin] at h
  | .bl _, _, _, h, _, _ => by simp [D.kin] at h
  | .str _, _, _, h, _, _ => by simp [D.kin] at h
  | .lst _, _, _, h, _, _ => by simp [D.kin] at h
  | .dic _, _, _, h, _, _ => by simp [D.kin] at h
  | .bag, _, _, h, _, _ => by simp [D.kin] at h
  | .scr, _, _, h, _, _ => by simp [D.kin] at h
theorem nks_is (I : Inv X pins σ H s) (sb : Sub F H) : ∀ {ds : List D} {vs : List V} {us : List Value}, D.kins ds = true → RpA X.K F vs ds → Vals vs us → NestedAll s.heap (D.nks ds) us
  | [], _, _, _, .nil, .nil => .nil
  | d :: ds, _, _, h, .cons r ra, .cons e er => by
    simp only [D.kins, Bool.and_eq_true] at h
    exact .cons (nk_is I sb h.1 r e) (nks_is I sb h.2 ra er)
end
theorem key_is (I : Inv X pins σ H s) (sb : Sub F H) {d : D} {b : Addr} (h : d.kok = true) (r : Rp X.K F (.ref b) d) : (nestedKind X.prog X.w).is s.heap d.nk b := ⟨nk_is I sb (kok_kin h) r rfl, kok_depth h⟩
theorem kok_ref {d : D} {v : V} (h : d.kok = true) (r : Rp X.K F v d) : ∃ b, v = .ref b := by
  cases r <;> first | (simp [D.kok] at h; done) | exact ⟨_, rfl⟩
theorem keys_r3 : ∀ {rows : List (NestedKey × Addr × V)} {xs : List (NestedKey × Addr × Value)}, Paired R3 rows xs → xs.map (·.1) = rows.map (·.1)
  | _, _, .nil => rfl
  | _, _, .cons hq t => by rw [List.map_cons, List.map_cons, keys_r3 t, hq.1]
/-- the entries of a dict with tuples as keys -/
theorem dkO_of (I : Inv X pins σ H s) (sb : Sub F H) {a : Addr} {rows : List (NestedKey × Addr × V)} {kvs : List (D × D)} (h : Rd H a (DkO a rows)) (k1 : rows.map (·.1) = kvs.map (fun p => p.1.nk)) (k2 : ∀ p ∈ kvs, p.1.kok = true) (r1 : RpA X.K F (rows.map fun r => V.ref r.2.1) (kvs.map (·.1))) :
    (a == sysModules) = false ∧ rows.length ≤ sizeLine ∧ ∃ xs, Paired R3 rows xs ∧ s.heap.DictOfH (nestedKind X.prog X.w) a xs := by
  obtain ⟨⟨z, y, nd, xs, o, es, ep, pr, h1, h2, h3, h4⟩, _⟩ := (show ObjOk X.prog X.w H s.heap a (DkO a rows) from h.ok I.hok)
  refine ⟨y, z, xs, pr, o, es, ep, h1, h2, h3, ?_, ?_, ?_⟩
  · rw [h4]
    refine List.map_congr_left fun x hx => ?_
    have key : ∀ {rows : List (NestedKey × Addr × V)} {xs : List (NestedKey × Addr × Value)} {kvs : List (D × D)}, Paired R3 rows xs → rows.map (·.1) = kvs.map (fun p => p.1.nk) → (∀ p ∈ kvs, p.1.kok = true) → ∀ x ∈ xs, hN x.1 = x.1.hash X.w := by
      intro rows xs kvs pr
      induction pr generalizing kvs with
      | nil => intro _ _ x hx; exact nomatch hx
      | @cons p q ps qs hq t ih =>
        intro e k x hx
        rcases kvs with _ | ⟨kv, kvs⟩
        · simp at e
        · simp only [List.map_cons, List.cons.injEq] at e
          rcases List.mem_cons.mp hx with rfl | hx
          · rw [← hq.1, e.1]
            exact hN_eq (kok_kin (k kv List.mem_cons_self))
          · exact ih e.2 (fun p hp => k p (List.mem_cons_of_mem _ hp)) x hx
    show (⟨hN x.1, .ref x.2.1, x.2.2⟩ : DictEntry) = ⟨(nestedKind X.prog X.w).hash x.1, .ref x.2.1, x.2.2⟩
    rw [key pr k1 k2 x hx]; rfl
  · have key : ∀ {rows : List (NestedKey × Addr × V)} {xs : List (NestedKey × Addr × Value)} {kvs : List (D × D)}, Paired R3 rows xs → rows.map (·.1) = kvs.map (fun p => p.1.nk) → (∀ p ∈ kvs, p.1.kok = true) → RpA X.K F (rows.map fun r => V.ref r.2.1) (kvs.map (·.1)) → ∀ x ∈ xs, (nestedKind X.prog X.w).is s.heap x.1 x.2.1 := by
      intro rows xs kvs pr
      induction pr generalizing kvs with
      | nil => intro _ _ _ x hx; exact nomatch hx
      | @cons p q ps qs hq t ih =>
        intro e k r x hx
        rcases kvs with _ | ⟨kv, kvs⟩
        · simp at e
        · simp only [List.map_cons, List.cons.injEq] at e
          rw [List.map_cons, List.map_cons] at r
          cases r with
          | cons r1 r2 =>
            rcases List.mem_cons.mp hx with rfl | hx
            · rw [← hq.1, e.1, ← hq.2.1]
              exact key_is I sb (k kv List.mem_cons_self) r1
            · exact ih e.2 (fun p hp => k p (List.mem_cons_of_mem _ hp)) r2 x hx
    exact key pr k1 k2 r1
  · rw [keys_r3 pr]; exact nd
/-- what stands at a key -/
theorem look_rows {F : Hp} {K : PySem.W.Frag} {k : D} (hk : k.kin = true) : ∀ {rows : List (NestedKey × Addr × V)} {xs : List (NestedKey × Addr × Value)} {kvs : List (D × D)}, Paired R3 rows xs → rows.map (·.1) = kvs.map (fun p => p.1.nk) → (∀ p ∈ kvs, p.1.kok = true) → RpA K F (rows.map (·.2.2)) (kvs.map (·.2)) →
    match dgetD kvs k with
    | some d => ∃ p v, atKey xs k.nk = some p ∧ RelV v p.2 ∧ Rp K F v d
    | none => atKey xs k.nk = none := by
  intro rows xs kvs pr
  induction pr generalizing kvs with
  | nil =>
    intro e _ _
    rcases kvs with _ | ⟨kv, kvs⟩
    · rfl
    · simp at e
  | @cons p q ps qs hq t ih =>
    intro e kk r
    rcases kvs with _ | ⟨kv, kvs⟩
    · simp at e
    · simp only [List.map_cons, List.cons.injEq] at e
      rw [List.map_cons, List.map_cons] at r
      cases r with
      | cons r1 r2 =>
        have eb := eqb_nk (kok_kin (kk kv List.mem_cons_self)) hk
        by_cases h : kv.1.nk = k.nk
        · rw [decide_eq_true h] at eb
          have e1 : dgetD (kv :: kvs) k = some kv.2 := by simp [dgetD, eb]
          have e2 : atKey (q :: qs) k.nk = some q.2 := by
            have : q.1 = k.nk := by rw [← hq.1, e.1, h]
            simp [atKey, this]
          rw [e1]
          exact ⟨q.2, p.2.2, e2, hq.2.2, r1⟩
        · rw [decide_eq_false h] at eb
          have e1 : dgetD (kv :: kvs) k = dgetD kvs k := by simp [dgetD, eb]
          have e2 : atKey (q :: qs) k.nk = atKey qs k.nk := by
            have : ¬ q.1 = k.nk := by rw [← hq.1, e.1]; exact h
            simp [atKey, this]
          rw [e1, e2]
          exact ih e.2 (fun p hp => kk p (List.mem_cons_of_mem _ hp)) r2
theorem look_flat {F : Hp} {K : PySem.W.Frag} {k : L2.Key} : ∀ {ks : List (L2.Key × V)} {kvs : List (D × D)}, RpA K F (ks.map (·.2)) (kvs.map (·.2)) → kvs.map (·.1) = ks.map (fun p => keyD p.1) →
    match dgetD kvs (keyD k) with
    | some d => ∃ v, valV ks k = some v ∧ Rp K F v d
    | none => valV ks k = none
  | [], [], _, _ => rfl
  | [], _ :: _, _, e => by simp at e
  | _ :: _, [], _, e => by simp at e
  | p :: ks, kv :: kvs, r, e => by
    simp only [List.map_cons, List.cons.injEq] at e
    rw [List.map_cons, List.map_cons] at r
    cases r with
    | cons r1 r2 =>
      have eb := eqb_key p.1 k
      rw [← e.1] at eb
      by_cases h : p.1 = k
      · rw [decide_eq_true h] at eb
        have e1 : dgetD (kv :: kvs) (keyD k) = some kv.2 := by simp [dgetD, eb]
        rw [e1]
        exact ⟨p.2, valV_pos h, r1⟩
      · rw [decide_eq_false h] at eb
        have e1 : dgetD (kv :: kvs) (keyD k) = dgetD kvs (keyD k) := by simp [dgetD, eb]
        rw [e1, valV_neg h]
        exact look_flat r2 e.2
/-! ### k in d -/
/-- a dict's entry at a key, as the heap has it -/
theorem dict_in (I : Inv X pins σ H s) (sb : Sub F H) {v w : V} {u : Value} {kvs : List (D × D)} {k : D} (rk : Rp X.K F v k) (ru : RelV v u) (r : Rp X.K F w (.dic kvs)) (kf : keyFor kvs k) :
    (∃ a, w = .ref a ∧ DGet H a v none ∧ dgetD kvs k = none) ∨ (∃ a x d, w = .ref a ∧ DGet H a v (some x) ∧ dgetD kvs k = some d ∧ Rp X.K F x d) ∨
    ∃ (a b : Addr) (xs : List (NestedKey × Addr × Value)), w = .ref a ∧ v = .ref b ∧ (a == sysModules) = false ∧ (nestedKind X.prog X.w).is s.heap k.nk b ∧ s.heap.DictOfH (nestedKind X.prog X.w) a xs ∧
      match dgetD kvs k with
      | some d => ∃ p y, atKey xs k.nk = some p ∧ RelV y p.2 ∧ Rp X.K F y d
      | none => atKey xs k.nk = none := by
  cases r with
  | @dic a o ks _ h ra e =>
    rcases kf with ⟨h1, _⟩ | ⟨h1, h2⟩
    · obtain ⟨kk, rfl⟩ := flt_key h1
      have ev : v = kV kk := by
        rcases kk with i | x
        · cases rk; rfl
        · cases rk; rfl
      subst ev
      have l := look_flat (k := kk) ra e
      have g : DGet H a (kV kk) (valV ks kk) := .inl ⟨ks, kk, .inr ⟨o, sb.frz h⟩, rfl, rfl⟩
      cases q : dgetD kvs (keyD kk) with
      | none => rw [q] at l; rw [show valV ks kk = none from l] at g; exact .inl ⟨a, rfl, g, rfl⟩
      | some d =>
        rw [q] at l
        obtain ⟨x, l1, l2⟩ := l
        rw [l1] at g
        exact .inr (.inl ⟨a, x, d, rfl, g, rfl, l2⟩)
    · have e0 : kvs = [] := by
        rcases kvs with _ | ⟨kv, kvs⟩
        · rfl
        · rcases ks with _ | ⟨p, ks⟩
          · simp at e
          · simp only [List.map_cons, List.cons.injEq] at e
            have := h2 kv List.mem_cons_self
            rw [e.1, keyD_kok] at this
            cases this
      subst e0
      have ek : ks = [] := by
        rcases ks with _ | ⟨p, ks⟩
        · rfl
        · simp at e
      subst ek
      obtain ⟨b, rfl⟩ := kok_ref h1 rk
      obtain ⟨_, hd, vs, rel, ob, es, ep, g1, g2, g3, _, g4, _⟩ := dk_rd I.hok (.inr ⟨o, sb.frz h⟩)
      have ev : vs = [] := by cases rel; rfl
      subst ev
      have ee : es.toList = [] := by
        have := g4
        cases h : es.toList with
        | nil => rfl
        | cons z zs => rw [h] at this; cases this
      exact .inr (.inr ⟨a, b, [], rfl, rfl, hd, key_is I sb h1 rk, ⟨ob, es, ep, g1, g2, g3, by rw [ee]; rfl, fun _ z => (nomatch z), .nil⟩, rfl⟩)
  | @dicT a o rows _ h k0 k1 k2 r1 r2 =>
    rcases kf with ⟨h1, h2⟩ | ⟨h1, _⟩
    · exfalso
      rcases kvs with _ | ⟨kv, kvs⟩
      · exact k0 rfl
      · have a1 := h2 kv List.mem_cons_self
        rw [kok_flt (k2 kv List.mem_cons_self)] at a1
        cases a1
    · obtain ⟨b, rfl⟩ := kok_ref h1 rk
      obtain ⟨hd, hz, xs, pr, dd⟩ := dkO_of I sb (.inr ⟨o, sb.frz h⟩) k1 k2 r1
      exact .inr (.inr ⟨a, b, xs, rfl, rfl, hd, key_is I sb h1 rk, dd, look_rows (kok_kin h1) pr k1 k2 r2⟩)
def inKD : D2 := fun x y Q => match y with
  | .dic kvs => keyFor kvs x ∧ Q (.bl (dgetD kvs x).isSome)
  | _ => False
def notInKD : D2 := fun x y Q => match y with
  | .dic kvs => keyFor kvs x ∧ Q (.bl (!(dgetD kvs x).isSome))
  | _ => False
end
end DV

namespace DV
open PySem PySem.Spec PyProof.Rows L2

/-! ### dicts of one's own are written -/
theorem Sta.putOwnG {K : PySem.W.Frag} {F0 H0 G F H : Hp} {σ : L2.St} {ρ : List Slot} (s : Sta K F0 H0 G F σ H ρ) {i : Nat} {p : Addr} {d : D} {u : HO} {d' : D} (h1 : σ[i]? = some (some (.ref p))) (h2 : ρ[i]? = some (.own d)) (o : OwnAt K F (upd H p u) p d') :
    Sta K F0 H0 G F σ (upd H p u) (ρ.set i (.own d')) := by
  obtain ⟨x, e1, p', e2, hF, _⟩ := s.env.at_ i _ h2
  rw [h1] at e1; cases e1; cases e2
  have h0 := s.own i p d h1 h2
  have hl : i < ρ.length := (List.getElem?_eq_some_iff.mp h2).1
  refine ⟨s.bse, s.pin, ⟨s.ext.mono, fun a o' e q => ?_, Ext.own s.ext.sub hF⟩, ⟨by simp [s.env.len], fun j sl e => ?_, fun a b q d1 e' hab a1 a2 a3 a4 => ?_⟩, fun j q d1 a1 a2 => ?_⟩
  · rw [upd_ne (ne_of_none q h0)]
    exact s.ext.keep a o' e q
  · by_cases hj : j = i
    · subst hj
      rw [List.getElem?_set_self hl] at e
      cases e
      exact ⟨_, h1, p, rfl, hF, o⟩
    · rw [List.getElem?_set_ne (Ne.symm hj)] at e
      obtain ⟨x, e1, ok⟩ := s.env.at_ j sl e
      refine ⟨x, e1, ?_⟩
      cases sl with
      | un => trivial
      | v d => exact ok
      | tg u d => exact ok
      | tb T => exact ok
      | own d1 =>
        obtain ⟨p2, e2, hF2, o2⟩ := ok
        refine ⟨p2, e2, hF2, o2.mono (Same.refl F) fun u q => ?_⟩
        have : p2 ≠ p := fun z => by
          subst z
          exact s.env.sep j i p2 d1 d hj (by rw [e1, e2]) e h1 h2
        rw [upd_ne this]; exact q
  · have own : ∀ {j : Nat} {d : D}, (ρ.set i (Slot.own d'))[j]? = some (.own d) → ∃ d', ρ[j]? = some (Slot.own d') := fun {j d} h => by
      by_cases hj : j = i
      · exact ⟨_, by rw [hj]; exact h2⟩
      · rw [List.getElem?_set_ne (Ne.symm hj)] at h
        exact ⟨_, h⟩
    obtain ⟨d1, b2⟩ := own a2
    obtain ⟨d2, b4⟩ := own a4
    exact s.env.sep a b q d1 d2 hab a1 b2 a3 b4
  · by_cases hj : j = i
    · subst hj
      rw [h1] at a1; cases a1
      exact h0
    · rw [List.getElem?_set_ne (Ne.symm hj)] at a2
      exact s.own j q d1 a1 a2

/-! rows and data -/
def DR (K : PySem.W.Frag) (F : Hp) (r : NestedKey × Addr × V) (p : D × D) : Prop := r.1 = p.1.nk ∧ p.1.kok = true ∧ Rp K F (.ref r.2.1) p.1 ∧ Rp K F r.2.2 p.2
theorem dr_of {K : PySem.W.Frag} {F : Hp} : ∀ {rows : List (NestedKey × Addr × V)} {kvs : List (D × D)}, rows.map (·.1) = kvs.map (fun p => p.1.nk) → (∀ p ∈ kvs, p.1.kok = true) → RpA K F (rows.map fun r => V.ref r.2.1) (kvs.map (·.1)) → RpA K F (rows.map (·.2.2)) (kvs.map (·.2)) → Paired (DR K F) rows kvs
  | [], [], _, _, _, _ => .nil
  | [], _ :: _, e, _, _, _ => by simp at e
  | _ :: _, [], e, _, _, _ => by simp at e
  | r :: rows, p :: kvs, e, k, r1, r2 => by
    simp only [List.map_cons, List.cons.injEq] at e
    rw [List.map_cons, List.map_cons] at r1 r2
    cases r1 with
    | cons a1 a2 =>
      cases r2 with
      | cons b1 b2 => exact .cons ⟨e.1, k p List.mem_cons_self, a1, b1⟩ (dr_of e.2 (fun q hq => k q (List.mem_cons_of_mem _ hq)) a2 b2)
theorem dr_to {K : PySem.W.Frag} {F : Hp} : ∀ {rows : List (NestedKey × Addr × V)} {kvs : List (D × D)}, Paired (DR K F) rows kvs → rows.map (·.1) = kvs.map (fun p => p.1.nk) ∧ (∀ p ∈ kvs, p.1.kok = true) ∧ RpA K F (rows.map fun r => V.ref r.2.1) (kvs.map (·.1)) ∧ RpA K F (rows.map (·.2.2)) (kvs.map (·.2))
  | _, _, .nil => ⟨rfl, (fun _ h => nomatch h), RpA.nil, RpA.nil⟩
  | _, _, .cons h t => by
    obtain ⟨a, b, c, d⟩ := dr_to t
    refine ⟨by rw [List.map_cons, List.map_cons, a, h.1], fun p hp => ?_, .cons h.2.2.1 c, .cons h.2.2.2 d⟩
    rcases List.mem_cons.mp hp with rfl | hp
    · exact h.2.1
    · exact b p hp
theorem DR.mono {K : PySem.W.Frag} {F F' : Hp} (m : Same F F') : ∀ {rows : List (NestedKey × Addr × V)} {kvs : List (D × D)}, Paired (DR K F) rows kvs → Paired (DR K F') rows kvs
  | _, _, .nil => .nil
  | _, _, .cons h t => .cons ⟨h.1, h.2.1, h.2.2.1.mono m, h.2.2.2.mono m⟩ (DR.mono m t)
def storedV (rows : List (NestedKey × Addr × V)) (k : NestedKey) (b : Addr) (v : V) : List (NestedKey × Addr × V) :=
  if (rows.any fun r => decide (r.1 = k)) = true then rows.map (fun r => if r.1 = k then (r.1, r.2.1, v) else r) else rows ++ [(k, b, v)]
theorem paired_append {α β : Type} {R : α → β → Prop} : ∀ {a c : List α} {b d : List β}, Paired R a b → Paired R c d → Paired R (a ++ c) (b ++ d)
  | _, _, _, _, .nil, q => q
  | _, _, _, _, .cons h t, q => .cons h (paired_append t q)
theorem any_r3 (k : NestedKey) : ∀ {rows : List (NestedKey × Addr × V)} {xs : List (NestedKey × Addr × Value)}, Paired R3 rows xs → (atKey xs k).isSome = rows.any fun r => decide (r.1 = k)
  | _, _, .nil => rfl
  | r :: rows, x :: xs, .cons h t => by
    rw [List.any_cons]
    by_cases e : r.1 = k
    · have e' : x.1 = k := h.1.symm.trans e
      rw [decide_eq_true e]
      simp [atKey, e']
    · have e' : ¬ x.1 = k := fun z => e (h.1.trans z)
      rw [decide_eq_false e, Bool.false_or, ← any_r3 k t]
      simp [atKey, e']
theorem r3_put {rows : List (NestedKey × Addr × V)} {xs : List (NestedKey × Addr × Value)} (h : Paired R3 rows xs) (k : NestedKey) (b : Addr) {v : V} {u : Value} (r : RelV v u) : Paired R3 (storedV rows k b v) (storedH xs k b u) := by
  unfold storedV storedH
  rw [any_r3 k h]
  split
  · rename_i hh
    clear hh
    induction h with
    | nil => exact .nil
    | @cons p q ps qs hq t ih =>
      rw [List.map_cons, List.map_cons]
      refine .cons ?_ ih
      by_cases e : p.1 = k
      · rw [if_pos e]
        unfold putAt
        rw [if_pos (hq.1.symm.trans e)]
        exact ⟨hq.1, hq.2.1, r⟩
      · rw [if_neg e]
        unfold putAt
        rw [if_neg (fun z => e (hq.1.trans z))]
        exact hq
  · exact paired_append h (.cons ⟨rfl, rfl, r⟩ .nil)
theorem any_dr {K : PySem.W.Frag} {F : Hp} {k : D} (hk : k.kin = true) : ∀ {rows : List (NestedKey × Addr × V)} {kvs : List (D × D)}, Paired (DR K F) rows kvs → (rows.any fun r => decide (r.1 = k.nk)) = kvs.any fun z => D.eqb z.1 k
  | _, _, .nil => rfl
  | r :: rows, p :: kvs, .cons h t => by
    rw [List.any_cons, List.any_cons, any_dr hk t, eqb_nk (kok_kin h.2.1) hk]
    congr 2
    rw [h.1]
theorem dr_put {K : PySem.W.Frag} {F : Hp} {rows : List (NestedKey × Addr × V)} {kvs : List (D × D)} (h : Paired (DR K F) rows kvs) {k d : D} {b : Addr} {v : V} (hk : k.kok = true) (rk : Rp K F (.ref b) k) (rv : Rp K F v d) : Paired (DR K F) (storedV rows k.nk b v) (dputD kvs k d) := by
  unfold storedV dputD
  rw [any_dr (kok_kin hk) h]
  split
  · rename_i hh
    clear hh
    induction h with
    | nil => exact .nil
    | @cons p q ps qs hq t ih =>
      rw [List.map_cons, List.map_cons]
      refine .cons ?_ ih
      have eb := eqb_nk (kok_kin hq.2.1) (kok_kin hk)
      by_cases e : p.1 = k.nk
      · rw [if_pos e, eb, decide_eq_true (hq.1.symm.trans e), if_pos rfl]
        exact ⟨hq.1, hq.2.1, hq.2.2.1, rv⟩
      · rw [if_neg e, eb, decide_eq_false (fun z => e (hq.1.trans z)), if_neg Bool.false_ne_true]
        exact hq
  · exact paired_append h (.cons ⟨rfl, hk, rk, rv⟩ .nil)
theorem dputD_len (kvs : List (D × D)) (k v : D) : (dputD kvs k v).length ≤ kvs.length + 1 := by
  unfold dputD
  split
  · rw [List.length_map]; omega
  · rw [List.length_append]; simp
theorem dputD_ne {kvs : List (D × D)} {k v : D} : dputD kvs k v ≠ [] := by
  unfold dputD
  split
  · rename_i h
    rcases kvs with _ | ⟨p, kvs⟩
    · simp at h
    · simp
  · simp
theorem dkO_ok {P : Program} {w : World} {K : PySem.W.Frag} {F H : Hp} {h : Heap} {a : Addr} {rows : List (NestedKey × Addr × V)} {kvs : List (D × D)} {xs : List (NestedKey × Addr × Value)} (z : rows.length ≤ sizeLine) (hd : (a == sysModules) = false) (pr : Paired R3 rows xs) (dr : Paired (DR K F) rows kvs)
    (dd : h.DictOfH (nestedKind P w) a xs) : ObjOk P w H h a (DkO a rows) := by
  obtain ⟨o, es, ep, h1, h2, h3, h4, _, h5⟩ := dd
  refine ⟨⟨z, hd, by rw [← keys_r3 pr]; exact h5, xs, o, es, ep, pr, h1, h2, h3, ?_⟩, ⟨o, h1⟩, fun g1 g2 ⟨y1, y2, y3, y4, y5, y6, y7, y8, y9, y10, y11, y12⟩ k => ⟨y1, y2, y3, y4, y5, y6, y7, y8, k _ y9, y10, y11, y12⟩⟩
  rw [h4]
  have key : ∀ {rows : List (NestedKey × Addr × V)} {xs : List (NestedKey × Addr × Value)} {kvs : List (D × D)}, Paired R3 rows xs → Paired (DR K F) rows kvs → ∀ x ∈ xs, hN x.1 = x.1.hash w := by
    intro rows xs kvs pr
    induction pr generalizing kvs with
    | nil => intro _ x hx; exact nomatch hx
    | @cons p q ps qs hq t ih =>
      intro e x hx
      cases e with
      | cons e1 e2 =>
        rcases List.mem_cons.mp hx with rfl | hx
        · rw [← hq.1, e1.1]
          exact hN_eq (kok_kin e1.2.1)
        · exact ih e2 x hx
  refine List.map_congr_left fun x hx => ?_
  show (⟨(nestedKind P w).hash x.1, .ref x.2.1, x.2.2⟩ : DictEntry) = ⟨hN x.1, .ref x.2.1, x.2.2⟩
  rw [key pr dr x hx]; rfl
theorem empty_flat {K : PySem.W.Frag} {ks : List (L2.Key × V)} {kvs : List (D × D)} (e : kvs.map (·.1) = ks.map (fun p => keyD p.1)) (h : ∀ q ∈ kvs, q.1.kok = true) : kvs = [] ∧ ks = [] := by
  rcases kvs with _ | ⟨kv, kvs⟩
  · rcases ks with _ | ⟨p, ks⟩
    · exact ⟨rfl, rfl⟩
    · simp at e
  · rcases ks with _ | ⟨p, ks⟩
    · simp at e
    · simp only [List.map_cons, List.cons.injEq] at e
      have := h kv List.mem_cons_self
      rw [e.1, keyD_kok] at this
      cases this
theorem put_flat {K : PySem.W.Frag} {F : Hp} {k : L2.Key} {v : V} {d : D} (rv : Rp K F v d) {ks : List (L2.Key × V)} {kvs : List (D × D)} (r : RpA K F (ks.map (·.2)) (kvs.map (·.2))) (e : kvs.map (·.1) = ks.map (fun p => keyD p.1)) :
    RpA K F ((putK ks k v).map (·.2)) ((dputD kvs (keyD k) d).map (·.2)) ∧ (dputD kvs (keyD k) d).map (·.1) = (putK ks k v).map (fun p => keyD p.1) := by
  have ea : ∀ {ks : List (L2.Key × V)} {kvs : List (D × D)}, kvs.map (·.1) = ks.map (fun p => keyD p.1) → (ks.any fun kv => decide (kv.1 = k)) = kvs.any fun z => D.eqb z.1 (keyD k) := by
    intro ks
    induction ks with
    | nil => intro kvs e; rcases kvs with _ | ⟨kv, kvs⟩ <;> first | rfl | simp at e
    | cons p ks ih =>
      intro kvs e
      rcases kvs with _ | ⟨kv, kvs⟩
      · simp at e
      · simp only [List.map_cons, List.cons.injEq] at e
        rw [List.any_cons, List.any_cons, ih e.2, e.1, eqb_key]
  have upd : ∀ {ks : List (L2.Key × V)} {kvs : List (D × D)}, RpA K F (ks.map (·.2)) (kvs.map (·.2)) → kvs.map (·.1) = ks.map (fun p => keyD p.1) →
      RpA K F ((ks.map fun kv => if kv.1 = k then (kv.1, v) else kv).map (·.2)) ((kvs.map fun z => if D.eqb z.1 (keyD k) = true then (z.1, d) else z).map (·.2)) ∧ (kvs.map fun z => if D.eqb z.1 (keyD k) = true then (z.1, d) else z).map (·.1) = (ks.map fun kv => if kv.1 = k then (kv.1, v) else kv).map (fun p => keyD p.1) := by
    intro ks
    induction ks with
    | nil => intro kvs r e; rcases kvs with _ | ⟨kv, kvs⟩ <;> first | exact ⟨.nil, rfl⟩ | simp at e
    | cons p ks ih =>
      intro kvs r e
      rcases kvs with _ | ⟨kv, kvs⟩
      · simp at e
      · simp only [List.map_cons, List.cons.injEq] at e
        rw [List.map_cons, List.map_cons] at r
        cases r with
        | cons r1 r2 =>
          obtain ⟨i1, i2⟩ := ih r2 e.2
          have eb := eqb_key p.1 k
          rw [← e.1] at eb
          simp only [List.map_cons]
          by_cases h : p.1 = k
          · rw [decide_eq_true h] at eb
            rw [if_pos h, if_pos eb]
            exact ⟨.cons rv i1, by rw [i2, e.1]⟩
          · rw [decide_eq_false h] at eb
            rw [if_neg h, if_neg (by rw [eb]; exact Bool.false_ne_true)]
            exact ⟨.cons r1 i1, by rw [i2, e.1]⟩
  unfold putK dputD
  rw [ea e]
  split
  · exact upd r e
  · rw [List.map_append, List.map_append, List.map_append, List.map_append, e]
    exact ⟨r.append (.cons rv .nil), rfl⟩
section
variable {X : Cx} {pins : List (Addr × Obj)} {σ : L2.St} {F H : Hp} {s : Shared}
/-- k: v comes to a dict of one's own -/
theorem own_put (hu : X.A.units + 65 < cLine) (I : Inv X pins σ H s) (sb : Sub F H) {p : Addr} {kvs : List (D × D)} {kd vd : D} {kv vv : V} {ku vu : Value} (o : OwnAt X.K F H p (.dic kvs)) (hF : F p = none) (rk : Rp X.K F kv kd) (ek : RelV kv ku) (rv : Rp X.K F vv vd) (ev : RelV vv vu) (kf : keyFor kvs kd) (hl : kvs.length < sizeLine)
    {Q : Unit → Shared → Prop} {E : Value → Shared → Prop} (h : ∀ u s', OwnAt X.K F (upd H p u) p (.dic (dputD kvs kd vd)) → Inv X pins σ (upd H p u) s' → Q () s') : wpAny (model X.prog X.w) X.A (setItem (.ref p) ku vu) Q E s := by
  -- tuples
  have tup : ∀ (rows : List (NestedKey × Addr × V)) (xs : List (NestedKey × Addr × Value)), kd.kok = true → (p == sysModules) = false → rows.length ≤ sizeLine → Mut (H p) → Paired R3 rows xs → Paired (DR X.K F) rows kvs → s.heap.DictOfH (nestedKind X.prog X.w) p xs → wpAny (model X.prog X.w) X.A (setItem (.ref p) ku vu) Q E s := fun rows xs hk hd hz mu pr dr dd => by
    obtain ⟨b, rfl⟩ := kok_ref hk rk
    cases (show ku = Value.ref b from ek)
    have hx : xs.length = kvs.length := by rw [← Paired.length pr, Paired.length dr]
    refine wpAny_setItem_heap (hsz := by omega) (show X.A.in1.units + 8 < cLine by rw [Around.in1_units]; omega) (key_is I sb hk rk) dd fun h' dd' hs => ?_
    have pr' := r3_put pr kd.nk b ev
    have dr' := dr_put dr hk rk rv
    have hz' : (storedV rows kd.nk b vv).length ≤ sizeLine := by
      rw [Paired.length dr']
      have := dputD_len kvs kd vd
      omega
    obtain ⟨e1, e2, e3, e4⟩ := dr_to dr'
    have he : ∃ q, h'.get? p = some q := let ⟨q, _, _, hq, _⟩ := dd'; ⟨q, hq⟩
    exact h (DkO p (storedV rows kd.nk b vv)) _ (.inr ⟨_, upd_same, dputD_ne, e1, e2, e3, e4⟩) (d_write I mu hs he (dkO_ok hz' hd pr' dr' dd'))
  rcases o with ⟨ks, hp, ra, e⟩ | ⟨rows, hp, k0, k1, k2, r1, r2⟩
  · rcases kf with ⟨h1, _⟩ | ⟨h1, h2⟩
    · obtain ⟨kk, rfl⟩ := flt_key h1
      have ev' : kv = kV kk := by
        rcases kk with i | x
        · cases rk; rfl
        · cases rk; rfl
      subst ev'
      have hks : ks.length < sizeLine := by
        have := congrArg List.length e
        simp only [List.length_map] at this
        omega
      refine d_setItem (by omega) I (DPut.k (k := kk) (v := vv) hp hks) ek ev fun s' I' => ?_
      obtain ⟨a1, a2⟩ := put_flat (k := kk) rv ra e
      exact h (.dK (putK ks kk vv)) s' (.inl ⟨_, upd_same, a1, a2⟩) I'
    · obtain ⟨rfl, rfl⟩ := empty_flat (K := X.K) e h2
      obtain ⟨_, hd, vs, rel, ob, es, ep, g1, g2, g3, _, g4, _⟩ := dk_rd I.hok (.inl hp)
      have ev : vs = [] := by cases rel; rfl
      subst ev
      have ee : es.toList = [] := by
        have := g4
        cases h : es.toList with
        | nil => rfl
        | cons z zs => rw [h] at this; cases this
      exact tup [] [] h1 hd (Nat.zero_le _) (by rw [hp]; exact True.intro) .nil .nil ⟨ob, es, ep, g1, g2, g3, by rw [ee]; rfl, fun _ z => (nomatch z), .nil⟩
  · rcases kf with ⟨h1, h2⟩ | ⟨h1, _⟩
    · exfalso
      rcases kvs with _ | ⟨kv, kvs⟩
      · exact k0 rfl
      · have a1 := h2 kv List.mem_cons_self
        rw [kok_flt (k2 kv List.mem_cons_self)] at a1
        cases a1
    · obtain ⟨hd, hz, xs, pr, dd⟩ := dkO_of I sb (.inl hp) k1 k2 r1
      exact tup rows xs h1 hd hz (by rw [hp]; exact True.intro) pr (dr_of k1 k2 r1 r2) dd
end
/-- d[k] = v, d a dict of one's own -/
def sPutD (i : Nat) (tk tv : DE) : DS := fun N ρ => match ρ[i]? with
  | some (.own (.dic kvs)) => tv ρ fun v => tk ρ fun k => keyFor kvs k ∧ kvs.length < sizeLine ∧ N.nx (ρ.set i (.own (.dic (dputD kvs k v))))
  | _ => False
section
variable {X : Cx} {e value ke o : Expr} {pos pos' : Pos} {tk tv : DE}
theorem pds_put {i : Nat} (hu : X.A.units + 65 < cLine) (ho : PE X o (tVar i)) (hk : PD X ke tk) (hv : PD X value tv) (hs : swapsWith value (some (.Subscript o ke pos')) pos.line X.env = pure false := by rfl) : PDS X (.Assign [.Subscript o ke pos'] value pos) (sPutD i tk tv) := by
  refine ⟨fun pins s σ H N I ⟨F0, H0, G, ρ, M, ⟨F, so⟩, ht, k⟩ => ?_⟩
  unfold sPutD at ht
  cases hi : ρ[i]? with
  | none => rw [hi] at ht; exact ht.elim
  | some sl =>
    rw [hi] at ht
    cases sl with
    | un => exact ht.elim
    | v d => exact ht.elim
    | tg u d => exact ht.elim
    | tb T => exact ht.elim
    | own d =>
      cases d <;> first | exact ht.elim | skip
      rename_i kvs
      obtain ⟨x, e1, p, e2, _, _⟩ := so.env.at_ i _ hi
      subst e2
      refine wpAny_Assign_Subscript (thn (hv.run pins s σ H (fun v H' => ∃ F' d, Sta X.K F0 H0 G F' σ H' ρ ∧ Rp X.K F' v d ∧ tk ρ fun k => keyFor kvs k ∧ kvs.length < sizeLine ∧ M.nx (ρ.set i (.own (.dic (dputD kvs k d))))) I (so.lf ht fun v H' F' d so' r q => ⟨F', d, so', r, q⟩)) fun vu s1 ⟨vv, H1, I1, ev, F1, vd, so1, rv, q1⟩ => ?_) hs
      refine thn (ho.run pins s1 σ H1 (fun x H' => x = .ref p ∧ H' = H1) I1 ⟨_, e1, rfl, rfl⟩) fun u s2 ⟨x, H2, I2, ex, e3, e4⟩ => ?_
      subst e3
      rw [e4] at I2
      cases (show u = Value.ref p from ex)
      refine thn (hk.run pins s2 σ H1 (fun v H' => ∃ F' d, Sta X.K F0 H0 G F' σ H' ρ ∧ Rp X.K F' v d ∧ Same F1 F' ∧ keyFor kvs d ∧ kvs.length < sizeLine ∧ M.nx (ρ.set i (.own (.dic (dputD kvs d vd))))) I2 ⟨ρ, F1, _, so1.ext.sub, so1.env, q1, fun v H' F' d x r q => ⟨F', d, so1.step x, r, x.mono, q⟩⟩) fun ku s3 ⟨kv, H3, I3, ek, F3, kd, so3, rk, m, kf, hl, q⟩ => ?_
      obtain ⟨x, a1, p', a2, hF, o3⟩ := so3.env.at_ i _ hi
      rw [e1] at a1; cases a1; cases a2
      exact own_put hu I3 so3.ext.sub o3 hF rk ek (rv.mono m) ev kf hl fun u s' o' I' => ⟨σ, _, I', k.nx _ _ _ ⟨F3, so3.putOwnG e1 hi o'⟩ q⟩
def dD0 : DE := fun _ Q => Q (.dic [])
theorem pdo_dict0 : PDo X (.Dict [] [] pos) dD0 := pe_dnewK.impD fun σ H Q ⟨ρ, F, Q0, s, en, ht, k⟩ => fun p hp =>
  k _ _ _ (.dic []) (Ext.newO s hp) (.inr ⟨p, rfl, hp, s.none hp, Or.inl ⟨[], upd_same, RpA.nil, rfl⟩⟩) ht
end
end DV

namespace DV
open PySem PySem.Spec PyProof.Rows L2

/-! ### dict(a list of pairs) -/
def tup2 (p : D × D) : D := .tup [p.1, p.2]
def mergeD (acc more : List (D × D)) : List (D × D) := more.foldl (fun a p => dputD a p.1 p.2) acc
def oneKind (kvs : List (D × D)) : Prop := (∀ q ∈ kvs, q.1.flt = true) ∨ ∀ q ∈ kvs, q.1.kok = true
def dictC : DF := fun ds Q => match ds with
  | [.lst ps] => ∃ kvs, ps = kvs.map tup2 ∧ oneKind kvs ∧ Q (.dic (mergeD [] kvs))
  | _ => False
def rDictC (K : PySem.W.Frag) (xs : List V) (H : Hp) (Q : VK) : Prop := ∃ F a kvs, Sub F H ∧ xs = [.ref a] ∧ Rp K F (.ref a) (.lst (kvs.map tup2)) ∧ oneKind kvs ∧ ∀ v H' F' , Ext F H F' H' → OwnV K H F' H' v (.dic (mergeD [] kvs)) → Q v H'
section
variable {X : Cx} {pins : List (Addr × Obj)} {σ : L2.St} {F H : Hp} {s : Shared}
theorem pair_of {K : PySem.W.Frag} {F : Hp} {v : V} {p : D × D} (r : Rp K F v (tup2 p)) : ∃ T x y, v = .ref T ∧ SqT K F T [x, y] ∧ Rp K F x p.1 ∧ Rp K F y p.2 := by
  unfold tup2 at r
  cases r with
  | tup h r =>
    cases r with
    | cons r1 r =>
      cases r with
      | cons r2 r =>
        cases r
        exact ⟨_, _, _, rfl, h, r1, r2⟩
theorem flat_pairs {K : PySem.W.Frag} (sb : Sub F H) : ∀ {vs : List V} {kvs : List (D × D)}, RpA K F vs (kvs.map tup2) → (∀ q ∈ kvs, q.1.flt = true) →
    ∃ (Ts : List Addr) (ks : List (L2.Key × V)), vs = Ts.map V.ref ∧ Paired (fun p kv => SqT K H p [kV kv.1, kv.2]) Ts ks ∧ RpA K F (ks.map (·.2)) (kvs.map (·.2)) ∧ kvs.map (·.1) = ks.map (fun p => keyD p.1)
  | _, [], r, _ => by
    cases r
    exact ⟨[], [], rfl, .nil, RpA.nil, rfl⟩
  | _, p :: kvs, r, h => by
    rw [List.map_cons] at r
    cases r with
    | cons r1 r2 =>
      obtain ⟨T, x, y, rfl, ht, ra, rb⟩ := pair_of r1
      obtain ⟨Ts, ks, rfl, pr, rv, e⟩ := flat_pairs sb r2 fun q hq => h q (List.mem_cons_of_mem _ hq)
      obtain ⟨kk, ek⟩ := flt_key (h p List.mem_cons_self)
      rw [ek] at ra
      have ev : x = kV kk := by
        rcases kk with i | x
        · cases ra; rfl
        · cases ra; rfl
      subst ev
      exact ⟨T :: Ts, (kk, y) :: ks, rfl, .cons (sb.seqT ht) pr, .cons rb rv, by rw [List.map_cons, List.map_cons, ek, e]⟩
theorem merge_flat {K : PySem.W.Frag} {F : Hp} : ∀ {more : List (D × D)} {mk : List (L2.Key × V)} {kvs : List (D × D)} {ks : List (L2.Key × V)}, RpA K F (mk.map (·.2)) (more.map (·.2)) → more.map (·.1) = mk.map (fun p => keyD p.1) → RpA K F (ks.map (·.2)) (kvs.map (·.2)) → kvs.map (·.1) = ks.map (fun p => keyD p.1) →
    RpA K F ((mergeK ks mk).map (·.2)) ((mergeD kvs more).map (·.2)) ∧ (mergeD kvs more).map (·.1) = (mergeK ks mk).map (fun p => keyD p.1)
  | [], [], kvs, ks, _, _, r, e => ⟨r, e⟩
  | [], _ :: _, _, _, _, e, _, _ => by simp at e
  | _ :: _, [], _, _, _, e, _, _ => by simp at e
  | p :: more, q :: mk, kvs, ks, r0, e0, r, e => by
    simp only [List.map_cons, List.cons.injEq] at e0
    rw [List.map_cons, List.map_cons] at r0
    cases r0 with
    | cons r1 r2 =>
      obtain ⟨a1, a2⟩ := put_flat (k := q.1) r1 r e
      have := merge_flat (kvs := dputD kvs (keyD q.1) p.2) (ks := putK ks q.1 q.2) r2 e0.2 a1 a2
      unfold mergeD mergeK at this ⊢
      rw [List.foldl_cons, List.foldl_cons, e0.1]
      exact this
theorem tup_pairs (I : Inv X pins σ H s) (sb : Sub F H) : ∀ {vs : List V} {us : List Value} {kvs : List (D × D)}, RpA X.K F vs (kvs.map tup2) → Vals vs us → (∀ q ∈ kvs, q.1.kok = true) →
    ∃ (Ts : List Addr) (rows : List (NestedKey × Addr × V)) (xs : List (NestedKey × Addr × Value)), us = Ts.map Value.ref ∧ Paired R3 rows xs ∧ Paired (DR X.K F) rows kvs ∧ Ts.length = xs.length ∧
      (∀ (j : Nat) x T, xs[j]? = some x → Ts[j]? = some T → s.heap.IsTuple T #[.ref x.2.1, x.2.2]) ∧ ∀ x ∈ xs, (nestedKind X.prog X.w).is s.heap x.1 x.2.1
  | _, _, [], r, rel, _ => by
    cases r
    cases rel
    exact ⟨[], [], [], rfl, .nil, .nil, rfl, (fun j x T e => by simp at e), fun _ h => nomatch h⟩
  | _, _, p :: kvs, r, rel, h => by
    rw [List.map_cons] at r
    cases r with
    | cons r1 r2 =>
      obtain ⟨T, x, y, rfl, ht, ra, rb⟩ := pair_of r1
      cases rel with
      | @cons _ u _ us e1 e2 =>
        cases (show u = Value.ref T from e1)
        obtain ⟨Ts, rows, xs, rfl, pr, dr, hl, hp, hk⟩ := tup_pairs I sb r2 e2 fun q hq => h q (List.mem_cons_of_mem _ hq)
        have kp := h p List.mem_cons_self
        obtain ⟨b, rfl⟩ := kok_ref kp ra
        obtain ⟨its, rv, tu, _⟩ := I.tuple (sb.seqT ht)
        obtain ⟨ku, vu, ei, ku', rvu⟩ := vals2 rv
        subst ei
        cases (show ku = Value.ref b from ku')
        refine ⟨T :: Ts, (p.1.nk, b, y) :: rows, (p.1.nk, b, vu) :: xs, rfl, .cons ⟨rfl, rfl, rvu⟩ pr, .cons ⟨rfl, kp, ra, rb⟩ dr, by simp [hl], fun j x T' a1 a2 => ?_, fun x hx => ?_⟩
        · cases j with
          | zero =>
            simp only [List.getElem?_cons_zero, Option.some.injEq] at a1 a2
            subst a1 a2
            exact tu
          | succ j => exact hp j x T' (by simpa using a1) (by simpa using a2)
        · rcases List.mem_cons.mp hx with rfl | hx
          · exact key_is I sb kp ra
          · exact hk x hx
theorem merge_rows {K : PySem.W.Frag} {F : Hp} : ∀ {mr : List (NestedKey × Addr × V)} {mx : List (NestedKey × Addr × Value)} {more : List (D × D)} {rows : List (NestedKey × Addr × V)} {xs : List (NestedKey × Addr × Value)} {kvs : List (D × D)}, Paired R3 mr mx → Paired (DR K F) mr more → Paired R3 rows xs → Paired (DR K F) rows kvs →
    ∃ rows', Paired R3 rows' (storedAllH xs mx) ∧ Paired (DR K F) rows' (mergeD kvs more)
  | _, _, _, rows, xs, kvs, .nil, q, r, d => by
    cases q
    exact ⟨rows, r, d⟩
  | _, _, _, rows, xs, kvs, .cons (a := a) (b := b) h t, q, r, d => by
    cases q with
    | @cons _ p _ more q1 q2 =>
      have h1 := r3_put r b.1 b.2.1 h.2.2
      have h2 := dr_put (b := b.2.1) d q1.2.1 (h.2.1 ▸ q1.2.2.1) q1.2.2.2
      have e : b.1 = p.1.nk := h.1.symm.trans q1.1
      rw [e] at h1
      obtain ⟨rows', g1, g2⟩ := merge_rows t q2 h1 h2
      refine ⟨rows', ?_, g2⟩
      show Paired R3 rows' (storedAllH (storedH xs b.1 b.2.1 b.2.2) _)
      rw [e]
      exact g1
theorem mergeD_len : ∀ (more kvs : List (D × D)), (mergeD kvs more).length ≤ kvs.length + more.length
  | [], kvs => by show kvs.length ≤ kvs.length + 0; omega
  | p :: r, kvs => by
    have h1 := mergeD_len r (dputD kvs p.1 p.2)
    have h2 := dputD_len kvs p.1 p.2
    show (mergeD (dputD kvs p.1 p.2) r).length ≤ _
    rw [List.length_cons]; omega
theorem mergeD_ne : ∀ (more : List (D × D)) {kvs : List (D × D)}, kvs ≠ [] → mergeD kvs more ≠ []
  | [], kvs, h => h
  | p :: r, kvs, h => mergeD_ne r dputD_ne
theorem call_dictC (hcalm : X.calm = true) (hu : X.A.units + 65 < cLine) : CallR X (.type "dict") (rDictC X.K) := by
  intro pins s σ H xs us Q I r ⟨F, a, kvs, sb, ex, rd, kd, q⟩
  subst ex
  cases rd with
  | @lst _ vs _ hF ra =>
    have hs : SqL X.K H a vs := .of (sb.lst hF)
    have flat : (∀ q ∈ kvs, q.1.flt = true) → wpAny (model X.prog X.w) X.A (call (.type "dict") us) (EP X pins σ Q) X.xe s := fun hf => by
      obtain ⟨Ts, ks, rfl, pr, rv, e⟩ := flat_pairs sb ra hf
      refine call_dictP hcalm pins s σ H _ us Q I r ⟨a, Ts, ks, rfl, hs, pr, fun p hp => ?_⟩
      obtain ⟨b1, b2⟩ := merge_flat (kvs := []) (ks := []) rv e RpA.nil rfl
      exact q _ _ F (Ext.newO sb hp) (.inr ⟨p, rfl, hp, sb.none hp, Or.inl ⟨_, upd_same, b1, b2⟩⟩)
    rcases kd with hf | hk
    · exact flat hf
    · by_cases h0 : kvs = []
      · subst h0
        exact flat fun _ z => nomatch z
      · obtain ⟨u, eu, rx⟩ := vals1 r
        subst eu
        cases (show u = Value.ref a from rx)
        obtain ⟨its, rv, pl, hz⟩ := I.list hs
        obtain ⟨Ts, rows, xs, rfl, pr, dr, hl, hp, hki⟩ := tup_pairs I sb ra rv hk
        have hlen : xs.length = kvs.length := by rw [← Paired.length pr, Paired.length dr]
        have hz' : xs.length ≤ sizeLine := by
          have := ra.length
          rw [List.length_map] at this
          omega
        let ps : List (Value × Value) := xs.map fun x => (Value.ref x.2.1, x.2.2)
        have hpl : ps.length = xs.length := by simp [ps]
        let Tf : Nat → Addr := fun j => Ts.getD j 0
        have hTf : ∀ {j : Nat}, j < xs.length → Ts[j]? = some (Tf j) := fun {j} hj => by
          have : j < Ts.length := by omega
          simp [Tf, List.getD, List.getElem?_eq_getElem this]
        have pi : PairItems s.heap (Ts.map Value.ref).toArray Tf ps := ⟨by simp [hl, ps], fun j k v e => by
          rw [List.getElem?_map] at e
          obtain ⟨x, ex, e⟩ := Option.map_eq_some_iff.mp e
          cases e
          have hj : j < xs.length := (List.getElem?_eq_some_iff.mp ex).1
          refine ⟨by simp [hTf hj], .inl (hp j x _ ex (hTf hj))⟩⟩
        obtain ⟨o, n, ho, hc, hd, hdat⟩ := pl
        refine call_dict_pairsH (knd := nestedKind X.prog X.w) (ps := xs) (PairArg.list a (Ts.map Value.ref).toArray Tf ps) (I.ok.hd hcalm) (show X.A.in1.in1.units + 8 < cLine by rw [Around.in1_units, Around.in1_units]; omega) ⟨⟨o, n, ho, hc, hd, hdat⟩, pi⟩ ⟨hpl.symm, fun i key v e => ?_⟩ (fun h' k x hx => ?_) (by omega) fun h' tk hd' k => ?_
        · have e' : (xs.map fun x => (Value.ref x.2.1, x.2.2))[i]? = some (key, v) := e
          rw [List.getElem?_map] at e'
          obtain ⟨x, ex, e'⟩ := Option.map_eq_some_iff.mp e'
          cases e'
          exact ⟨x.1, x.2.1, ex, rfl⟩
        · exact nestedKind_stays.stays (fun b o vs n e _ => k b o (Nat.ne_of_lt (Heap.lt_size e)) (fun z => nomatch z) e) (hki x hx)
        · have hm : (s.heap.objs.size == sysModules) = false := beq_eq_false_iff_ne.mpr (Nat.ne_of_gt I.big)
          obtain ⟨rows', g1, g2⟩ := merge_rows pr dr (rows := []) (xs := []) (kvs := []) .nil .nil
          obtain ⟨e1, e2, e3, e4⟩ := dr_to g2
          have hz2 : rows'.length ≤ sizeLine := by
            rw [Paired.length g2]
            have := mergeD_len kvs []
            simp only [List.length_nil] at this
            omega
          have hn := I.hok.fresh (Nat.le_refl s.heap.objs.size)
          have ne : mergeD [] kvs ≠ [] := by
            rcases kvs with _ | ⟨p, kvs⟩
            · exact absurd rfl h0
            · exact mergeD_ne kvs dputD_ne
          exact ⟨.ref s.heap.objs.size, _, I.laid (a := s.heap.objs.size) (o := DkO s.heap.objs.size rows') (t' := tk) (fun b o e => k b o (fun z => nomatch z) e) (Nat.le_refl _) (dkO_ok hz2 hm g1 g2 hd'), rfl, q _ _ F (Ext.newO sb hn) (.inr ⟨_, rfl, hn, sb.none hn, Or.inr ⟨rows', upd_same, ne, e1, e2, e3, e4⟩⟩)⟩
theorem cdo_dict {K : PySem.W.Frag} : CallDo K (rDictC K) dictC := fun F H xs ds Q0 Q s r q k => by
  rcases r with _ | ⟨r1, _ | ⟨_, _⟩⟩
  · exact q.elim
  · rename_i d
    cases d <;> first | exact q.elim | skip
    obtain ⟨kvs, rfl, kd, q⟩ := q
    cases r1 with
    | lst h ra => exact ⟨F, _, kvs, s, rfl, .lst h ra, kd, fun v H' F' x o => k v H' F' _ x o q⟩
  · rename_i d1 _ _ _ _
    exfalso
    unfold dictC at q
    split at q
    · rename_i h
      cases h
    · exact q
end
end DV

namespace DV
open PySem PySem.Spec PyProof.Rows L2

/-! ### d[k] -/
theorem tailD {prog : Program} {w : World} {A : Around} {E : Value → Shared → Prop} {s : Shared} {value slice : Expr} {o i : Value} {Q : Value → Shared → Prop} (hT : s.TypeIs o "dict") (hs : subscripted slice false o i = operate [o, i] (getItem o i)) (h : wpAny (model prog w) A (getItem o i) Q E s) :
    wpAny (model prog w) A (subscriptTail value slice o i) Q E s := by
  unfold subscriptTail
  refine wpAny_bind ?_
  rw [getitemInPython_of_ne hT.not_modules]
  refine wpAny_bind (wpAny_specialOf hT PySem.F.slot_dict_getitem.lookup ?_)
  have fin : wpAny (model prog w) A (subscripted slice false o i) (fun r s₃ => wpAny (model prog w) A (letTemporaryGo value o r >>= fun _ => pure r) Q E s₃) E s := by
    rw [hs]
    exact wpAny_operating (wpAny_mono h (fun r s₃ h₃ => wpAny_bind (wpAny_letTemporaryGo (wpAny_pure h₃))) fun _ _ x => x)
  first
    | exact wpAny_pure (wpAny_bind fin)
    | exact wpAny_bind (wpAny_pure (wpAny_bind fin))
    | exact wpAny_bind fin
def rIxK (K : PySem.W.Frag) : R2 := fun x y H Q => ∃ F k kvs d, Sub F H ∧ Rp K F y k ∧ Rp K F x (.dic kvs) ∧ keyFor kvs k ∧ dgetD kvs k = some d ∧ ∀ v, Rp K F v d → Q v H
def ixKD : D2 := fun x y Q => match x with
  | .dic kvs => keyFor kvs y ∧ match dgetD kvs y with
    | some d => Q d
    | none => False
  | _ => False
section
variable {X : Cx}
theorem ix_dict (hu : X.A.units + 65 < cLine) : IxR X (rIxK X.K) := by
  intro value slice pins s σ H x y v u Q I rx ry ⟨F, k, kvs, d, sb, rk, rd, kf, e, q⟩ hs
  rcases dict_in I sb rk ry rd kf with ⟨a, rfl, g, e'⟩ | ⟨a, z, d', rfl, g, e', r⟩ | ⟨a, b, xs, rfl, rfl, hd, hk, dd, l⟩
  · rw [e] at e'; cases e'
  · cases (show v = Value.ref a from rx)
    rw [e] at e'; cases e'
    exact tailD (dict_typeIs I g) hs (d_getItem (by omega) I g ry fun w' s' I' rw' => ⟨z, H, I', rw', q z r⟩)
  · cases (show v = Value.ref a from rx)
    cases (show u = Value.ref b from ry)
    rw [e] at l
    obtain ⟨p, z, l1, l2, l3⟩ := l
    exact tailD dd.typeIs hs (wpAny_getItem_heap (show X.A.in1.units + 8 < cLine by rw [Around.in1_units]; omega) hk dd l1 ⟨z, H, I.tok _, l2, q z l3⟩)
theorem od_ixK {K : PySem.W.Frag} : OpD K (rIxK K) ixKD := fun F H x y dx dy Q0 Q s rx ry q k => by
  cases dx <;> first | exact q.elim | skip
  rename_i kvs
  obtain ⟨kf, q⟩ := q
  cases e : dgetD kvs dy with
  | none => rw [e] at q; exact q.elim
  | some d =>
    rw [e] at q
    exact ⟨F, dy, kvs, d, s, ry, rx, kf, e, fun v r => k v H F d (.refl s) r q⟩
theorem pd_itemK {a b : Expr} {ta tb : DE} {pos : Pos} (hu : X.A.units + 65 < cLine) (ha : PD X a ta) (hb : PD X b tb) (hs : PlainIx b := by exact fun _ _ => rfl) : PD X (.Subscript a b pos) (dOp ixKD ta tb) := pd_ix (ix_dict hu) od_ixK ha hb hs
end

/-! ### new things made while a thing of one's own is lent -/
/-- a list or dict of things without lists, or a thing without lists -/
def D.nlc : D → Bool
  | .lst ds => D.noLsts ds
  | .dic ds => D.noLsts (ds.map (·.2))
  | d => d.noLst
def dBorO (i : Nat) (t : DE) : DE := fun ρ Q => t (frz i ρ) fun d => d.nlc = true ∧ Q d
section
variable {X : Cx} {e : Expr} {t : DE}
end
section
variable {X : Cx} {tg iter elt : Expr} {ifs : List Expr} {scope : Scope} {pos : Pos} {it : DI} {g : TG} {g' : DG} {tt : DT} {te : DE} {own : List (Str × Nat)}
end
end DV

namespace DV
open PySem PySem.Spec PyProof.Rows L2
/-! ### plain laws of the readings -/
theorem forD_inv {g : DG} {b : DS} {N : DN} (I : List Slot → Prop) : ∀ (ds : List D) (ρ : List Slot), I ρ →
    (∀ d ∈ ds, ∀ (ρ : List Slot) (M : DN), I ρ → (∀ ρ', I ρ' → M.nx ρ') → (∀ ρ', I ρ' → M.ct ρ') → M.rt = N.rt → M.bk = N.nx → g d ρ fun ρ' => b M ρ') → (∀ ρ, I ρ → N.nx ρ) → forD g b N ds ρ
  | [], ρ, h, _, e => e ρ h
  | d :: ds, ρ, h, s, e => s d List.mem_cons_self ρ _ h (fun ρ' h' => forD_inv I ds ρ' h' (fun d hd => s d (List.mem_cons_of_mem _ hd)) e) (fun ρ' h' => forD_inv I ds ρ' h' (fun d hd => s d (List.mem_cons_of_mem _ hd)) e) rfl rfl
theorem lcD_map {g : DG} {te : DE} {ρ : List Slot} (f : D → D) : ∀ (ds acc : List D) (Q : D → Prop), (∀ d ∈ ds, ∀ Q1 : D → Prop, Q1 (f d) → g d ρ fun ρ2 => te ρ2 Q1) → acc.length + ds.length ≤ sizeLine → Q (.lst (acc ++ ds.map f)) → lcD g dYes te ρ ds acc Q
  | [], acc, Q, _, _, q => by
    rw [List.map_nil, List.append_nil] at q
    exact q
  | d :: ds, acc, Q, h, hl, q => by
    have hl' : acc.length + (ds.length + 1) ≤ sizeLine := hl
    refine h d List.mem_cons_self (fun y => acc.length < sizeLine ∧ lcD g dYes te ρ ds (acc ++ [y]) Q) ⟨by omega, ?_⟩
    refine lcD_map f ds (acc ++ [f d]) Q (fun d hd => h d (List.mem_cons_of_mem _ hd)) (by rw [List.length_append]; show acc.length + 1 + ds.length ≤ sizeLine; omega) ?_
    rw [List.append_assoc]
    exact q
theorem pull_ok {n : Int} {Q : D → Prop} (h0 : 0 < n) (h1 : n < 18446744073709551616) (h : ∀ r : Int, 0 ≤ r → r < n → Q (.int r)) : pullD [.bag, .int n] Q := by
  exact ⟨n, rfl, h0, ⟨by omega, by
    have h2 : n.natAbs < 2 ^ 64 := by omega
    exact Nat.lt_of_lt_of_le (PySem.Flt.log2_lt_of (by decide) h2) (by decide)⟩, h⟩
theorem divOk {j : Int} (h0 : j ≠ 0) (h1 : j.natAbs < 1461501637330902918203684832716283019655932542976) : DivOk j := ⟨h0, by
  have h2 : j.natAbs < 2 ^ 160 := h1
  exact Nat.lt_of_lt_of_le (PySem.Flt.log2_lt_of (by decide) h2) (by decide)⟩
theorem mem_rng {lo : Int} {n : Nat} {d : D} (h : d ∈ rngD lo n) : ∃ k : Nat, k < n ∧ d = .int (lo + k) := by
  obtain ⟨k, hk, rfl⟩ := List.mem_map.mp h
  exact ⟨k, List.mem_range.mp hk, rfl⟩
theorem atI_of {α : Type} {xs : List α} {i : Int} (h0 : 0 ≤ i) (h1 : i < xs.length) : atI xs i = some (xs[i.toNat]'(by omega)) := by
  have e : atI xs ((i.toNat : Nat) : Int) = some (xs[i.toNat]'(by omega)) := atI_nat (List.getElem?_eq_getElem (by omega))
  rwa [Int.toNat_of_nonneg h0] at e
/-- an item at a drawn place -/
theorem ix_all {ds : List D} {i : Int} {Q : D → Prop} (h0 : 0 ≤ i) (h1 : i < ds.length) (h : ∀ d ∈ ds, Q d) : ixD (.lst ds) (.int i) Q := by
  show match atI ds i with
    | some d => Q d
    | none => False
  rw [atI_of h0 h1]
  exact h _ (List.getElem_mem _)
theorem ix_nat {ds : List D} {i : Nat} {Q : D → Prop} (h1 : i < ds.length) (h : Q ds[i]) : ixD (.lst ds) (.int (i : Int)) Q := by
  show match atI ds i with
    | some d => Q d
    | none => False
  rw [atI_of (by omega) (by omega)]
  exact h
theorem ix_natT {ds : List D} {i : Nat} {Q : D → Prop} (h1 : i < ds.length) (h : Q ds[i]) : ixD (.tup ds) (.int (i : Int)) Q := by
  show match atI ds i with
    | some d => Q d
    | none => False
  rw [atI_of (by omega) (by omega)]
  exact h
/-- data that _law_like may compare, n deep -/
def Lk : Nat → D → Prop
  | 0, _ => False
  | n + 1, d => match d with
    | .non => True
    | .bl _ => True
    | .int _ => True
    | .str x => PyData.strOk x = true
    | .tup ds => ds.length ≤ 1000000 ∧ ∀ d ∈ ds, Lk n d
    | .lst ds => ds.length ≤ 1000000 ∧ ∀ d ∈ ds, Lk n d
    | _ => False

/-! ### the operators at known data -/
section
variable {i j : Int} {a b : Bool} {x y : Str} {xs ys : List D} {d e f g h : D} {Q : D → Prop} {T : String}
theorem addD_ii : addD (.int i) (.int j) Q = Q (.int (i + j)) := rfl
theorem addD_tt : addD (.tup xs) (.tup ys) Q = (xs ≠ [] ∧ xs.length + ys.length ≤ sizeLine ∧ Q (.tup (xs ++ ys))) := rfl
theorem addD_ll : addD (.lst xs) (.lst ys) Q = (xs.length + ys.length ≤ sizeLine ∧ Q (.lst (xs ++ ys))) := rfl
theorem subD_ii : subD (.int i) (.int j) Q = Q (.int (i - j)) := rfl
theorem mulD_ii : mulD (.int i) (.int j) Q = (MulOk i j ∧ Q (.int (i * j))) := rfl
theorem fdivD_ii : fdivD (.int i) (.int j) Q = (DivOk j ∧ Q (.int (i.fdiv j))) := rfl
theorem modD_ii : modD (.int i) (.int j) Q = (j ≠ 0 ∧ Q (.int (i.fmod j))) := rfl
theorem powD_10_9 : powD (.int 10) (.int 9) Q = Q (.int 1000000000) := by
  show ((0 ≤ (9 : Int) ∧ (9 : Int) ≤ 1000000 ∧ (10 : Int).natAbs < 2 ^ 64) ∧ Q (.int (10 ^ (9 : Int).toNat))) = _
  rw [show (10 : Int) ^ (9 : Int).toNat = 1000000000 by decide]
  simp
theorem powD_10_6 : powD (.int 10) (.int 6) Q = Q (.int 1000000) := by
  show ((0 ≤ (6 : Int) ∧ (6 : Int) ≤ 1000000 ∧ (10 : Int).natAbs < 2 ^ 64) ∧ Q (.int (10 ^ (6 : Int).toNat))) = _
  rw [show (10 : Int) ^ (6 : Int).toNat = 1000000 by decide]
  simp
theorem ltA_ii : ltA (.int i) (.int j) Q = Q (.bl (decide (i < j))) := propext ⟨fun z => z.elim id fun z => by have := z.2.2.2.2; dsimp only at this; rw [show (D.int i).toP = .int i from rfl, show (D.int j).toP = .int j from rfl, W.dataLt_int] at this; exact this, .inl⟩
theorem gtA_ii : gtA (.int i) (.int j) Q = Q (.bl (decide (j < i))) := propext ⟨fun z => z.elim id fun z => by have := z.2.2.2.2; dsimp only at this; rw [show (D.int i).toP = .int i from rfl, show (D.int j).toP = .int j from rfl, W.dataLt_int] at this; exact this, .inl⟩
theorem not_lt_le {i j : Int} : (!decide (j < i)) = decide (i ≤ j) := by
  by_cases h : j < i
  · rw [decide_eq_true h, decide_eq_false (by omega)]; rfl
  · rw [decide_eq_false h, decide_eq_true (by omega)]; rfl
theorem leA_ii : leA (.int i) (.int j) Q = Q (.bl (decide (i ≤ j))) := propext ⟨fun z => z.elim id fun z => by have := z.2.2.2.2; dsimp only at this; rw [show (D.int i).toP = .int i from rfl, show (D.int j).toP = .int j from rfl, W.dataLt_int, not_lt_le] at this; exact this, .inl⟩
theorem geA_ii : geA (.int i) (.int j) Q = Q (.bl (decide (j ≤ i))) := propext ⟨fun z => z.elim id fun z => by have := z.2.2.2.2; dsimp only at this; rw [show (D.int i).toP = .int i from rfl, show (D.int j).toP = .int j from rfl, W.dataLt_int, not_lt_le] at this; exact this, .inl⟩
theorem ltT_t2 {i j k l : Int} : W.dataLt (D.tup [.int i, .int j]).toP (D.tup [.int k, .int l]).toP = decide (i < k ∨ (i = k ∧ j < l)) := W.dataLt_ii i j k l
theorem ltA_t2 {i j k l : Int} : ltA (.tup [.int i, .int j]) (.tup [.int k, .int l]) Q = Q (.bl (decide (i < k ∨ (i = k ∧ j < l)))) := propext ⟨fun z => z.elim (fun z => z.elim) fun z => by have := z.2.2.2.2; dsimp only at this; rwa [ltT_t2] at this, fun z => .inr ⟨rfl, rfl, rfl, (fun q => nomatch q), by dsimp only; rwa [ltT_t2]⟩⟩
theorem gtA_t2 {i j k l : Int} : gtA (.tup [.int i, .int j]) (.tup [.int k, .int l]) Q = Q (.bl (decide (k < i ∨ (k = i ∧ l < j)))) := propext ⟨fun z => z.elim (fun z => z.elim) fun z => by have := z.2.2.2.2; dsimp only at this; rwa [ltT_t2] at this, fun z => .inr ⟨rfl, rfl, rfl, (fun q => nomatch q), by dsimp only; rwa [ltT_t2]⟩⟩
theorem leA_t2 {i j k l : Int} : leA (.tup [.int i, .int j]) (.tup [.int k, .int l]) Q = Q (.bl (!decide (k < i ∨ (k = i ∧ l < j)))) := propext ⟨fun z => z.elim (fun z => z.elim) fun z => by have := z.2.2.2.2; dsimp only at this; rwa [ltT_t2] at this, fun z => .inr ⟨rfl, rfl, rfl, (fun q => nomatch q), by dsimp only; rwa [ltT_t2]⟩⟩
theorem geA_t2 {i j k l : Int} : geA (.tup [.int i, .int j]) (.tup [.int k, .int l]) Q = Q (.bl (!decide (i < k ∨ (i = k ∧ j < l)))) := propext ⟨fun z => z.elim (fun z => z.elim) fun z => by have := z.2.2.2.2; dsimp only at this; rwa [ltT_t2] at this, fun z => .inr ⟨rfl, rfl, rfl, (fun q => nomatch q), by dsimp only; rwa [ltT_t2]⟩⟩
theorem max2A_ii : max2A [.int i, .int j] Q = Q (.int (max i j)) := by
  have e : max2D [.int i, .int j] Q = Q (.int (max i j)) := by
    show Q (.int (if j > i then j else i)) = _
    rw [show (if j > i then j else i) = max i j by omega]
  refine propext ⟨fun z => z.elim (fun z => e ▸ z) fun z => ?_, fun z => .inl (e ▸ z)⟩
  have := z.2.2.2
  rw [if_pos rfl, show (D.int i).toP = .int i from rfl, show (D.int j).toP = .int j from rfl, W.dataLt_int] at this
  by_cases h : i < j
  · rw [if_pos (decide_eq_true h)] at this; rwa [show max i j = j by omega]
  · rw [if_neg (by simpa using h)] at this; rwa [show max i j = i by omega]
theorem min2A_ii : min2A [.int i, .int j] Q = Q (.int (min i j)) := by
  have e : min2D [.int i, .int j] Q = Q (.int (min i j)) := by
    show Q (.int (if j < i then j else i)) = _
    rw [show (if j < i then j else i) = min i j by omega]
  refine propext ⟨fun z => z.elim (fun z => e ▸ z) fun z => ?_, fun z => .inl (e ▸ z)⟩
  have := z.2.2.2
  rw [if_neg Bool.false_ne_true, show (D.int i).toP = .int i from rfl, show (D.int j).toP = .int j from rfl, W.dataLt_int] at this
  by_cases h : j < i
  · rw [if_pos (decide_eq_true h)] at this; rwa [show min i j = j by omega]
  · rw [if_neg (by simpa using h)] at this; rwa [show min i j = i by omega]
theorem alike2 {i j k l : Int} : W.AlikeAll [(D.tup [.int i, .int j]).toP, (D.tup [.int k, .int l]).toP] := by
  refine ⟨fun x hx y hy => ?_, fun x hx => ?_⟩
  · simp only [List.mem_cons, List.not_mem_nil, or_false] at hx hy
    rcases hx with rfl | rfl <;> rcases hy with rfl | rfl <;> rfl
  · simp only [List.mem_cons, List.not_mem_nil, or_false] at hx
    rcases hx with rfl | rfl <;> exact fun z => nomatch z
theorem max2A_t2 {i j k l : Int} : max2A [.tup [.int i, .int j], .tup [.int k, .int l]] Q = Q (if i < k ∨ (i = k ∧ j < l) then .tup [.int k, .int l] else .tup [.int i, .int j]) := by
  have e : (if W.dataLt (D.tup [.int i, .int j]).toP (D.tup [.int k, .int l]).toP = true then D.tup [.int k, .int l] else .tup [.int i, .int j]) = if i < k ∨ (i = k ∧ j < l) then .tup [.int k, .int l] else .tup [.int i, .int j] := by rw [ltT_t2]; simp only [decide_eq_true_eq]
  exact propext ⟨fun z => z.elim (fun z => z.elim) fun z => e ▸ z.2.2.2, fun z => .inr ⟨rfl, rfl, alike2, e ▸ z⟩⟩
theorem min2A_t2 {i j k l : Int} : min2A [.tup [.int i, .int j], .tup [.int k, .int l]] Q = Q (if k < i ∨ (k = i ∧ l < j) then .tup [.int k, .int l] else .tup [.int i, .int j]) := by
  have e : (if W.dataLt (D.tup [.int k, .int l]).toP (D.tup [.int i, .int j]).toP = true then D.tup [.int k, .int l] else .tup [.int i, .int j]) = if k < i ∨ (k = i ∧ l < j) then .tup [.int k, .int l] else .tup [.int i, .int j] := by rw [ltT_t2]; simp only [decide_eq_true_eq]
  exact propext ⟨fun z => z.elim (fun z => z.elim) fun z => e ▸ z.2.2.2, fun z => .inr ⟨rfl, rfl, alike2, e ▸ z⟩⟩
theorem revD_l : revD (.lst xs) Q = Q (.lst xs.reverse) := rfl
theorem negD_i : negD (.int i) Q = Q (.int (-i)) := rfl
theorem notD_b : notD (.bl a) Q = Q (.bl (!a)) := rfl
theorem isBD_bb : isBD (.bl a) (.bl b) Q = Q (.bl (decide (a = b))) := rfl
theorem isNon_n : isNonD .non .non Q = Q (.bl true) := rfl
theorem isNon_t : isNonD (.tup xs) .non Q = Q (.bl false) := rfl
theorem isNon_l : isNonD (.lst xs) .non Q = Q (.bl false) := rfl
theorem notNon_n : notNonD .non .non Q = Q (.bl false) := rfl
theorem notNon_t : notNonD (.tup xs) .non Q = Q (.bl true) := rfl
theorem absD_i : absD [.int i] Q = Q (.int (if i < 0 then -i else i)) := rfl
theorem intC_i : intC [.int i] Q = Q (.int i) := rfl
theorem intC_b : intC [.bl a] Q = Q (.int (if a = true then 1 else 0)) := rfl
theorem lenD_l : lenD [.lst xs] Q = Q (.int xs.length) := rfl
theorem lenD_t : lenD [.tup xs] Q = Q (.int xs.length) := rfl
theorem listD_l : listD [.lst xs] Q = Q (.lst xs) := rfl
theorem listD_t : listD [.tup xs] Q = Q (.lst xs) := rfl
theorem tupleD_l : tupleD [.lst xs] Q = Q (.tup xs) := rfl
theorem tupleD_t : tupleD [.tup xs] Q = Q (.tup xs) := rfl
theorem allD_l : allD [.lst xs] Q = (xs.all isB = true ∧ Q (.bl (xs.all isT))) := rfl
theorem anyD_l : anyD [.lst xs] Q = (xs.all isB = true ∧ Q (.bl (xs.any isT))) := rfl
theorem ixT0 : ixD (.tup (d :: xs)) (.int 0) Q = Q d := by
  show (match atI (d :: xs) ((0 : Nat) : Int) with
    | some d => Q d
    | none => False) = Q d
  rw [atI_nat (j := 0) (v := d) rfl]
theorem ixT1 : ixD (.tup (d :: e :: xs)) (.int 1) Q = Q e := by
  show (match atI (d :: e :: xs) ((1 : Nat) : Int) with
    | some d => Q d
    | none => False) = Q e
  rw [atI_nat (j := 1) (v := e) rfl]
theorem ixT2 : ixD (.tup (d :: e :: f :: xs)) (.int 2) Q = Q f := by
  show (match atI (d :: e :: f :: xs) ((2 : Nat) : Int) with
    | some d => Q d
    | none => False) = Q f
  rw [atI_nat (j := 2) (v := f) rfl]
theorem ixT3 : ixD (.tup (d :: e :: f :: g :: xs)) (.int 3) Q = Q g := by
  show (match atI (d :: e :: f :: g :: xs) ((3 : Nat) : Int) with
    | some d => Q d
    | none => False) = Q g
  rw [atI_nat (j := 3) (v := g) rfl]
theorem ixL0 : ixD (.lst (d :: xs)) (.int 0) Q = Q d := ixT0
theorem ixL1 : ixD (.lst (d :: e :: xs)) (.int 1) Q = Q e := ixT1
theorem ixL2 : ixD (.lst (d :: e :: f :: xs)) (.int 2) Q = Q f := ixT2
theorem ixL3 : ixD (.lst (d :: e :: f :: g :: xs)) (.int 3) Q = Q g := ixT3
theorem lay_i : (D.int i).lay = true := rfl
theorem lay_b : (D.bl a).lay = true := rfl
theorem lay_n : D.non.lay = true := rfl
theorem lay_t0 : (D.tup []).lay = true := rfl
theorem lay_l0 : (D.lst []).lay = true := rfl
theorem lay_t2 {i j : Int} : (D.tup [.int i, .int j]).lay = true := rfl
theorem lay_t4 {i j k l : Int} : (D.tup [.int i, .int j, .int k, .int l]).lay = true := rfl
theorem eqb_ii : D.eqb (.int i) (.int j) = (i == j) := by simp only [D.eqb]
theorem eqb_bb : D.eqb (.bl a) (.bl b) = (a == b) := by simp only [D.eqb]
theorem eqb_ss : D.eqb (.str x) (.str y) = (x == y) := by simp only [D.eqb]
theorem eqb_nn : D.eqb .non .non = true := by simp only [D.eqb]
theorem eqb_tt : D.eqb (.tup xs) (.tup ys) = D.eqbs xs ys := by simp only [D.eqb]
theorem eqb_ll : D.eqb (.lst xs) (.lst ys) = D.eqbs xs ys := by simp only [D.eqb]
theorem eqbs_nn : D.eqbs [] [] = true := by simp only [D.eqbs]
theorem eqbs_cc : D.eqbs (d :: xs) (e :: ys) = (D.eqb d e && D.eqbs xs ys) := by simp only [D.eqbs]
theorem eqbs_nc : D.eqbs [] (e :: ys) = false := by simp only [D.eqbs]
theorem eqbs_cn : D.eqbs (d :: xs) [] = false := by simp only [D.eqbs]
theorem tyOk_n : D.non.tyOk = true := rfl
theorem tyOk_b : (D.bl a).tyOk = true := rfl
theorem tyOk_i : (D.int i).tyOk = true := rfl
theorem tyOk_s : (D.str x).tyOk = true := rfl
theorem tyOk_t : (D.tup xs).tyOk = true := rfl
theorem tyOk_l : (D.lst xs).tyOk = true := rfl
theorem isi_n : isiD T .non = decide (T = "NoneType") := rfl
theorem isi_b : isiD T (.bl a) = (decide (T = "bool") || decide (T = "int")) := rfl
theorem isi_i : isiD T (.int i) = decide (T = "int") := rfl
theorem isi_s : isiD T (.str x) = decide (T = "str") := rfl
theorem isi_t : isiD T (.tup xs) = decide (T = "tuple") := rfl
theorem isi_l : isiD T (.lst xs) = decide (T = "list") := rfl
end
theorem sl0 : (0 ≤ sizeLine) = True := eq_true (by decide)
theorem sl1 : (1 ≤ sizeLine) = True := eq_true (by decide)
theorem sl2 : (2 ≤ sizeLine) = True := eq_true (by decide)
theorem sl3 : (3 ≤ sizeLine) = True := eq_true (by decide)
theorem sl4 : (4 ≤ sizeLine) = True := eq_true (by decide)
theorem sl5 : (5 ≤ sizeLine) = True := eq_true (by decide)
theorem sl6 : (6 ≤ sizeLine) = True := eq_true (by decide)
theorem sl7 : (7 ≤ sizeLine) = True := eq_true (by decide)
theorem sl8 : (8 ≤ sizeLine) = True := eq_true (by decide)
theorem sl9 : (9 ≤ sizeLine) = True := eq_true (by decide)
theorem sl10 : (10 ≤ sizeLine) = True := eq_true (by decide)
theorem sl11 : (11 ≤ sizeLine) = True := eq_true (by decide)
theorem sl12 : (12 ≤ sizeLine) = True := eq_true (by decide)
theorem slt0 : (0 < sizeLine) = True := eq_true (by decide)
theorem slt1 : (1 < sizeLine) = True := eq_true (by decide)
theorem slt2 : (2 < sizeLine) = True := eq_true (by decide)
theorem slt3 : (3 < sizeLine) = True := eq_true (by decide)
theorem slt4 : (4 < sizeLine) = True := eq_true (by decide)
theorem slt5 : (5 < sizeLine) = True := eq_true (by decide)
theorem slt6 : (6 < sizeLine) = True := eq_true (by decide)
theorem slt7 : (7 < sizeLine) = True := eq_true (by decide)
theorem slt8 : (8 < sizeLine) = True := eq_true (by decide)
theorem slt9 : (9 < sizeLine) = True := eq_true (by decide)
theorem slt10 : (10 < sizeLine) = True := eq_true (by decide)
theorem slt11 : (11 < sizeLine) = True := eq_true (by decide)
theorem slt12 : (12 < sizeLine) = True := eq_true (by decide)
theorem mulOk {i j : Int} (h : (-18446744073709551616 < i ∧ i < 18446744073709551616) ∨ (-18446744073709551616 < j ∧ j < 18446744073709551616)) : MulOk i j := h.imp (fun h => ⟨by omega, by omega⟩) fun h => ⟨by omega, by omega⟩
/-! ### equations that unfold from the outside -/
def chB (z : D) (p q : Prop) : Prop := match z with
  | .bl k => if k = true then p else q
  | _ => False
def tsB (x : D) (Q : Bool → Prop) : Prop := match x with
  | .bl b => Q b
  | _ => False
def ownL (s : Option Slot) (P : List D → Prop) : Prop := match s with
  | some (.own (.lst ds)) => P ds
  | _ => False
def two (ds : List D) (P : D → D → Prop) : Prop := match ds with
  | [d, e] => P d e
  | _ => False
def three (ds : List D) (P : D → D → D → Prop) : Prop := match ds with
  | [d, e, f] => P d e f
  | _ => False
def asI (d : D) (P : Int → Prop) : Prop := match d with
  | .int i => P i
  | _ => False
def asS (d : D) (P : List D → Prop) : Prop := match d with
  | .lst ds => P ds
  | .tup ds => P ds
  | _ => False
def one (ds : List D) (P : D → Prop) : Prop := match ds with
  | [d] => P d
  | _ => False
def k_sAppend1 (i : Nat) (N : DN) (ρ : List Slot) (ds : List D) (d : D) : Prop := ds.length < sizeLine ∧ N.nx (ρ.set i (.own (.lst (ds ++ [d]))))
theorem k_sAppend1_q {i : Nat} {N : DN} {ρ : List Slot} {ds : List D} {d : D} : k_sAppend1 i N ρ ds d = (ds.length < sizeLine ∧ N.nx (ρ.set i (.own (.lst (ds ++ [d]))))) := rfl
def k_sAppend (i : Nat) (t : DE) (N : DN) (ρ : List Slot) (ds : List D) : Prop := t ρ (k_sAppend1 i N ρ ds)
theorem k_sAppend_q {i : Nat} {t : DE} {N : DN} {ρ : List Slot} {ds : List D} : k_sAppend i t N ρ ds = (t ρ (k_sAppend1 i N ρ ds)) := rfl
def ownD (s : Option Slot) (P : D → Prop) : Prop := match s with
  | some (.own d) => P d
  | _ => False
theorem ownD_o {d : D} {P : D → Prop} : ownD (some (.own d)) P = P d := rfl
def k_sRetOwn (N : DN) (d : D) : Prop := N.ro d
theorem k_sRetOwn_q {N : DN} {d : D} : k_sRetOwn N d = N.ro d := rfl
def k_sPar2 (i j : Nat) (N : DN) (ρ : List Slot) (d e : D) : Prop := N.nx ((ρ.set i (.v d)).set j (.v e))
theorem k_sPar2_q {i j : Nat} {N : DN} {ρ : List Slot} {d e : D} : k_sPar2 i j N ρ d e = (N.nx ((ρ.set i (.v d)).set j (.v e))) := rfl
def k_sPar (i j : Nat) (N : DN) (ρ : List Slot) (ds : List D) : Prop := two ds (k_sPar2 i j N ρ)
theorem k_sPar_q {i j : Nat} {N : DN} {ρ : List Slot} {ds : List D} : k_sPar i j N ρ ds = (two ds (k_sPar2 i j N ρ)) := rfl
def k_sPar33 (i j l : Nat) (N : DN) (ρ : List Slot) (d e f : D) : Prop := N.nx (((ρ.set i (.v d)).set j (.v e)).set l (.v f))
theorem k_sPar33_q {i j l : Nat} {N : DN} {ρ : List Slot} {d e f : D} : k_sPar33 i j l N ρ d e f = (N.nx (((ρ.set i (.v d)).set j (.v e)).set l (.v f))) := rfl
def k_sPar3 (i j l : Nat) (N : DN) (ρ : List Slot) (ds : List D) : Prop := three ds (k_sPar33 i j l N ρ)
theorem k_sPar3_q {i j l : Nat} {N : DN} {ρ : List Slot} {ds : List D} : k_sPar3 i j l N ρ ds = (three ds (k_sPar33 i j l N ρ)) := rfl
def k_some (Q : Option Int → Prop) (i : Int) : Prop := Q (some i)
theorem k_some_q {Q : Option Int → Prop} {i : Int} : k_some Q i = (Q (some i)) := rfl
def k_asI (P : Int → Prop) (d : D) : Prop := asI d P
theorem k_asI_q {P : Int → Prop} {d : D} : k_asI P d = (asI d P) := rfl
def k_asS (Q : List D → Prop) (d : D) : Prop := asS d Q
theorem k_asS_q {Q : List D → Prop} {d : D} : k_asS Q d = (asS d Q) := rfl
def k_rng1 (Q : List D → Prop) (j : Int) : Prop := (-(2 ^ 62) ≤ j ∧ j < 2 ^ 62) ∧ Q (rngD 0 j.toNat)
theorem k_rng1_q {Q : List D → Prop} {j : Int} : k_rng1 Q j = ((-(2 ^ 62) ≤ j ∧ j < 2 ^ 62) ∧ Q (rngD 0 j.toNat)) := rfl
def k_one (P : D → Prop) (ds : List D) : Prop := one ds P
theorem k_one_q {P : D → Prop} {ds : List D} : k_one P ds = (one ds P) := rfl
def k_rng22 (Q : List D → Prop) (i : Int) (j : Int) : Prop := (-(2 ^ 62) ≤ i ∧ i < 2 ^ 62 ∧ -(2 ^ 62) ≤ j ∧ j < 2 ^ 62) ∧ Q (rngD i (j - i).toNat)
theorem k_rng22_q {Q : List D → Prop} {i : Int} {j : Int} : k_rng22 Q i j = ((-(2 ^ 62) ≤ i ∧ i < 2 ^ 62 ∧ -(2 ^ 62) ≤ j ∧ j < 2 ^ 62) ∧ Q (rngD i (j - i).toNat)) := rfl
def k_rng21 (Q : List D → Prop) (e : D) (i : Int) : Prop := asI e (k_rng22 Q i)
theorem k_rng21_q {Q : List D → Prop} {e : D} {i : Int} : k_rng21 Q e i = (asI e (k_rng22 Q i)) := rfl
def k_rng2 (Q : List D → Prop) (d e : D) : Prop := asI d (k_rng21 Q e)
theorem k_rng2_q {Q : List D → Prop} {d e : D} : k_rng2 Q d e = (asI d (k_rng21 Q e)) := rfl
def k_two (P : D → D → Prop) (ds : List D) : Prop := two ds P
theorem k_two_q {P : D → D → Prop} {ds : List D} : k_two P ds = (two ds P) := rfl
def k_non (Q : D → Prop) (ρ : List Slot) : Prop := Q .non
theorem k_non_q {Q : D → Prop} {ρ : List Slot} : k_non Q ρ = (Q .non) := rfl
def k_no  (ρ : List Slot) : Prop := False
theorem k_no_q {ρ : List Slot} : k_no ρ = (False) := rfl
def k_sSet (i : Nat) (N : DN) (ρ : List Slot) (d : D) : Prop := N.nx (ρ.set i (.v d))
theorem k_sSet_q {i : Nat} {N : DN} {ρ : List Slot} {d : D} : k_sSet i N ρ d = (N.nx (ρ.set i (.v d))) := rfl
def k_sAsg (g : DG) (N : DN) (ρ : List Slot) (d : D) : Prop := g d ρ N.nx
theorem k_sAsg_q {g : DG} {N : DN} {ρ : List Slot} {d : D} : k_sAsg g N ρ d = (g d ρ N.nx) := rfl
def k_sAsg2 (i j : Nat) (N : DN) (ρ : List Slot) (d : D) : Prop := N.nx ((ρ.set i (.v d)).set j (.v d))
theorem k_sAsg2_q {i j : Nat} {N : DN} {ρ : List Slot} {d : D} : k_sAsg2 i j N ρ d = (N.nx ((ρ.set i (.v d)).set j (.v d))) := rfl
def k_sIf (t u : DS) (N : DN) (ρ : List Slot) (b : Bool) : Prop := if b = true then t N ρ else u N ρ
theorem k_sIf_q {t u : DS} {N : DN} {ρ : List Slot} {b : Bool} : k_sIf t u N ρ b = (if b = true then t N ρ else u N ρ) := rfl
def k_sDrop (N : DN) (ρ : List Slot) (d : D) : Prop := N.nx ρ
theorem k_sDrop_q {N : DN} {ρ : List Slot} {d : D} : k_sDrop N ρ d = (N.nx ρ) := rfl
def k_sOwn (i : Nat) (N : DN) (ρ : List Slot) (ds : List D) : Prop := ds.length ≤ sizeLine ∧ N.nx (ρ.set i (.own (.lst ds)))
theorem k_sOwn_q {i : Nat} {N : DN} {ρ : List Slot} {ds : List D} : k_sOwn i N ρ ds = (ds.length ≤ sizeLine ∧ N.nx (ρ.set i (.own (.lst ds)))) := rfl
def k_sFor (g : DG) (b : DS) (N : DN) (ρ : List Slot) (ds : List D) : Prop := forD g b N ds ρ
theorem k_sFor_q {g : DG} {b : DS} {N : DN} {ρ : List Slot} {ds : List D} : k_sFor g b N ρ ds = (forD g b N ds ρ) := rfl
def k_gs (gs : List D → List Slot → (List Slot → Prop) → Prop) (r : List D) (Q : List Slot → Prop) (ρ' : List Slot) : Prop := gs r ρ' Q
theorem k_gs_q {gs : List D → List Slot → (List Slot → Prop) → Prop} {r : List D} {Q : List Slot → Prop} {ρ' : List Slot} : k_gs gs r Q ρ' = (gs r ρ' Q) := rfl
def k_dOp2 (g : D2) (x : D) (Q : D → Prop) (y : D) : Prop := g x y Q
theorem k_dOp2_q {g : D2} {x : D} {Q : D → Prop} {y : D} : k_dOp2 g x Q y = (g x y Q) := rfl
def k_dOp (g : D2) (tb : DE) (ρ : List Slot) (Q : D → Prop) (x : D) : Prop := tb ρ (k_dOp2 g x Q)
theorem k_dOp_q {g : D2} {tb : DE} {ρ : List Slot} {Q : D → Prop} {x : D} : k_dOp g tb ρ Q x = (tb ρ (k_dOp2 g x Q)) := rfl
def k_dCh4 (g' : D2) (y : D) (Q : D → Prop) (w : D) : Prop := g' y w Q
theorem k_dCh4_q {g' : D2} {y : D} {Q : D → Prop} {w : D} : k_dCh4 g' y Q w = (g' y w Q) := rfl
def k_dCh3 (g' : D2) (tc : DE) (ρ : List Slot) (y : D) (Q : D → Prop) (z : D) : Prop := chB z (tc ρ (k_dCh4 g' y Q)) (Q (.bl false))
theorem k_dCh3_q {g' : D2} {tc : DE} {ρ : List Slot} {y : D} {Q : D → Prop} {z : D} : k_dCh3 g' tc ρ y Q z = (chB z (tc ρ (k_dCh4 g' y Q)) (Q (.bl false))) := rfl
def k_dCh2 (g g' : D2) (tc : DE) (ρ : List Slot) (x : D) (Q : D → Prop) (y : D) : Prop := g x y (k_dCh3 g' tc ρ y Q)
theorem k_dCh2_q {g g' : D2} {tc : DE} {ρ : List Slot} {x : D} {Q : D → Prop} {y : D} : k_dCh2 g g' tc ρ x Q y = (g x y (k_dCh3 g' tc ρ y Q)) := rfl
def k_dCh1 (g g' : D2) (tb tc : DE) (ρ : List Slot) (Q : D → Prop) (x : D) : Prop := tb ρ (k_dCh2 g g' tc ρ x Q)
theorem k_dCh1_q {g g' : D2} {tb tc : DE} {ρ : List Slot} {Q : D → Prop} {x : D} : k_dCh1 g g' tb tc ρ Q x = (tb ρ (k_dCh2 g g' tc ρ x Q)) := rfl
def k_dUn (g : D → (D → Prop) → Prop) (Q : D → Prop) (x : D) : Prop := g x Q
theorem k_dUn_q {g : D → (D → Prop) → Prop} {Q : D → Prop} {x : D} : k_dUn g Q x = (g x Q) := rfl
def k_dTest (Q : Bool → Prop) (x : D) : Prop := tsB x Q
theorem k_dTest_q {Q : Bool → Prop} {x : D} : k_dTest Q x = (tsB x Q) := rfl
def k_dAnd (u : DT) (ρ : List Slot) (Q : Bool → Prop) (c : Bool) : Prop := if c = true then u ρ Q else Q false
theorem k_dAnd_q {u : DT} {ρ : List Slot} {Q : Bool → Prop} {c : Bool} : k_dAnd u ρ Q c = (if c = true then u ρ Q else Q false) := rfl
def k_dOr (u : DT) (ρ : List Slot) (Q : Bool → Prop) (c : Bool) : Prop := if c = true then Q true else u ρ Q
theorem k_dOr_q {u : DT} {ρ : List Slot} {Q : Bool → Prop} {c : Bool} : k_dOr u ρ Q c = (if c = true then Q true else u ρ Q) := rfl
def k_dNot (Q : Bool → Prop) (c : Bool) : Prop := Q (!c)
theorem k_dNot_q {Q : Bool → Prop} {c : Bool} : k_dNot Q c = (Q (!c)) := rfl
def k_dAndV (tb : DE) (ρ : List Slot) (Q : D → Prop) (x : D) : Prop := chB x (tb ρ Q) (Q (.bl false))
theorem k_dAndV_q {tb : DE} {ρ : List Slot} {Q : D → Prop} {x : D} : k_dAndV tb ρ Q x = (chB x (tb ρ Q) (Q (.bl false))) := rfl
def k_dOrV (tb : DE) (ρ : List Slot) (Q : D → Prop) (x : D) : Prop := chB x (Q (.bl true)) (tb ρ Q)
theorem k_dOrV_q {tb : DE} {ρ : List Slot} {Q : D → Prop} {x : D} : k_dOrV tb ρ Q x = (chB x (Q (.bl true)) (tb ρ Q)) := rfl
def k_dIf (ta tb : DE) (ρ : List Slot) (Q : D → Prop) (k : Bool) : Prop := if k = true then ta ρ Q else tb ρ Q
theorem k_dIf_q {ta tb : DE} {ρ : List Slot} {Q : D → Prop} {k : Bool} : k_dIf ta tb ρ Q k = (if k = true then ta ρ Q else tb ρ Q) := rfl
def k_dCons2 (x : D) (Q : List D → Prop) (xs : List D) : Prop := Q (x :: xs)
theorem k_dCons2_q {x : D} {Q : List D → Prop} {xs : List D} : k_dCons2 x Q xs = (Q (x :: xs)) := rfl
def k_dCons (tr : DA) (ρ : List Slot) (Q : List D → Prop) (x : D) : Prop := tr ρ (k_dCons2 x Q)
theorem k_dCons_q {tr : DA} {ρ : List Slot} {Q : List D → Prop} {x : D} : k_dCons tr ρ Q x = (tr ρ (k_dCons2 x Q)) := rfl
def k_dTup (Q : D → Prop) (xs : List D) : Prop := xs.length ≤ sizeLine ∧ Q (.tup xs)
theorem k_dTup_q {Q : D → Prop} {xs : List D} : k_dTup Q xs = (xs.length ≤ sizeLine ∧ Q (.tup xs)) := rfl
def k_dLst (Q : D → Prop) (xs : List D) : Prop := xs.length ≤ sizeLine ∧ Q (.lst xs)
theorem k_dLst_q {Q : D → Prop} {xs : List D} : k_dLst Q xs = (xs.length ≤ sizeLine ∧ Q (.lst xs)) := rfl
def k_dCall (f : DSp) (dd : List D) (Q : D → Prop) (ds : List D) : Prop := f (ds ++ dd) Q
theorem k_dCall_q {f : DSp} {dd : List D} {Q : D → Prop} {ds : List D} : k_dCall f dd Q ds = (f (ds ++ dd) Q) := rfl
def k_dIsi (T : String) (Q : D → Prop) (d : D) : Prop := d.tyOk = true ∧ Q (.bl (isiD T d))
theorem k_dIsi_q {T : String} {Q : D → Prop} {d : D} : k_dIsi T Q d = (d.tyOk = true ∧ Q (.bl (isiD T d))) := rfl
def k_dIsi2 (T S : String) (Q : D → Prop) (d : D) : Prop := d.tyOk = true ∧ Q (.bl (isiD T d || isiD S d))
theorem k_dIsi2_q {T S : String} {Q : D → Prop} {d : D} : k_dIsi2 T S Q d = (d.tyOk = true ∧ Q (.bl (isiD T d || isiD S d))) := rfl
def k_dSl3 (x : D) (lo : Option Int) (Q : D → Prop) (hi : Option Int) : Prop := slD x lo hi Q
theorem k_dSl3_q {x : D} {lo : Option Int} {Q : D → Prop} {hi : Option Int} : k_dSl3 x lo Q hi = (slD x lo hi Q) := rfl
def k_dSl2 (h : DO) (ρ : List Slot) (x : D) (Q : D → Prop) (lo : Option Int) : Prop := h ρ (k_dSl3 x lo Q)
theorem k_dSl2_q {h : DO} {ρ : List Slot} {x : D} {Q : D → Prop} {lo : Option Int} : k_dSl2 h ρ x Q lo = (h ρ (k_dSl3 x lo Q)) := rfl
def k_dSl (l h : DO) (ρ : List Slot) (Q : D → Prop) (x : D) : Prop := l ρ (k_dSl2 h ρ x Q)
theorem k_dSl_q {l h : DO} {ρ : List Slot} {Q : D → Prop} {x : D} : k_dSl l h ρ Q x = (l ρ (k_dSl2 h ρ x Q)) := rfl
def k_dRev (Q : D → Prop) (x : D) : Prop := revD x Q
theorem k_dRev_q {Q : D → Prop} {x : D} : k_dRev Q x = (revD x Q) := rfl
def k_dLc (g : DG) (tt : DT) (te : DE) (ρ : List Slot) (Q : D → Prop) (ds : List D) : Prop := lcD g tt te ρ ds [] Q
theorem k_dLc_q {g : DG} {tt : DT} {te : DE} {ρ : List Slot} {Q : D → Prop} {ds : List D} : k_dLc g tt te ρ Q ds = (lcD g tt te ρ ds [] Q) := rfl
def k_dB (g : DF) (Q : D → Prop) (ds : List D) : Prop := g ds Q
theorem k_dB_q {g : DF} {Q : D → Prop} {ds : List D} : k_dB g Q ds = g ds Q := rfl
theorem chB_b {k : Bool} {p q : Prop} : chB (.bl k) p q = if k = true then p else q := rfl
theorem tsB_b {b : Bool} {Q : Bool → Prop} : tsB (.bl b) Q = Q b := rfl
theorem dVar_s {i : Nat} {s : Slot} {ρ : List Slot} {Q : D → Prop} : dVar (i + 1) (s :: ρ) Q = dVar i ρ Q := rfl
theorem ownL_o {ds : List D} {P : List D → Prop} : ownL (some (.own (.lst ds))) P = P ds := rfl
theorem e_sAppend {i : Nat} {t : DE} {N : DN} {ρ : List Slot} : sAppend i t N ρ = ownL ρ[i]? (k_sAppend i t N ρ) := rfl
theorem e_sRetOwn {i : Nat} {N : DN} {ρ : List Slot} : sRetOwn i N ρ = ownD ρ[i]? (k_sRetOwn N) := rfl
theorem two_2 {d e : D} {P : D → D → Prop} : two [d, e] P = P d e := rfl
theorem three_3 {d e f : D} {P : D → D → D → Prop} : three [d, e, f] P = P d e f := rfl
theorem e_sPar {i j : Nat} {t : DA} {N : DN} {ρ : List Slot} : sPar i j t N ρ = t ρ (k_sPar i j N ρ) := rfl
theorem e_sPar3 {i j l : Nat} {t : DA} {N : DN} {ρ : List Slot} : sPar3 i j l t N ρ = t ρ (k_sPar3 i j l N ρ) := rfl
theorem asI_i {i : Int} {P : Int → Prop} : asI (.int i) P = P i := rfl
theorem e_dPart {t : DE} {ρ : List Slot} {Q : Option Int → Prop} : dPart t ρ Q = t ρ (k_asI (k_some Q)) := by
  unfold dPart
  rfl
theorem asS_l {ds : List D} {P : List D → Prop} : asS (.lst ds) P = P ds := rfl
theorem asS_t {ds : List D} {P : List D → Prop} : asS (.tup ds) P = P ds := rfl
theorem e_iSeq {t : DE} {ρ : List Slot} {Q : List D → Prop} : iSeq t ρ Q = t ρ (k_asS Q) := rfl
theorem one_1 {d : D} {P : D → Prop} : one [d] P = P d := rfl
theorem e_iRng1D {t : DA} {ρ : List Slot} {Q : List D → Prop} : iRng1D t ρ Q = t ρ (k_one (k_asI (k_rng1 Q))) := by
  unfold iRng1D
  congr
  funext ds
  rcases ds with _ | ⟨d, _ | ⟨_, _⟩⟩
  · rfl
  · cases d <;> rfl
  · cases d <;> rfl
theorem e_iRng2D {t : DA} {ρ : List Slot} {Q : List D → Prop} : iRng2D t ρ Q = t ρ (k_two (k_rng2 Q)) := by
  unfold iRng2D
  congr
  funext ds
  rcases ds with _ | ⟨d, _ | ⟨e, _ | ⟨_, _⟩⟩⟩
  · rfl
  · cases d <;> rfl
  · cases d <;> cases e <;> rfl
  · cases d <;> cases e <;> rfl
def k_for (g : DG) (b : DS) (N : DN) (ds : List D) (ρ' : List Slot) : Prop := b ⟨forD g b N ds, N.rt, N.nx, forD g b N ds, N.ro⟩ ρ'
theorem k_for_q {g : DG} {b : DS} {N : DN} {ds : List D} {ρ' : List Slot} : k_for g b N ds ρ' = b ⟨forD g b N ds, N.rt, N.nx, forD g b N ds, N.ro⟩ ρ' := rfl
theorem e_for_n {g : DG} {b : DS} {N : DN} {ρ : List Slot} : forD g b N [] ρ = N.nx ρ := rfl
theorem e_for_c {g : DG} {b : DS} {N : DN} {d : D} {ds : List D} {ρ : List Slot} : forD g b N (d :: ds) ρ = g d ρ (k_for g b N ds) := rfl
theorem wipeD_n {ρ : List Slot} : wipeD ρ [] = ρ := rfl
theorem wipeD_c {ρ : List Slot} {v : Nat} {vs : List Nat} : wipeD ρ (v :: vs) = (wipeD ρ vs).set v .un := rfl
theorem frz_0 {ρ : List Slot} {d : D} : frz 0 (.own d :: ρ) = .v d :: ρ := rfl
theorem frz_0v {ρ : List Slot} {d : D} : frz 0 (.v d :: ρ) = .v d :: ρ := rfl
theorem frz_s {i : Nat} {s : Slot} {ρ : List Slot} : frz (i + 1) (s :: ρ) = s :: frz i ρ := by
  unfold frz
  rw [List.getElem?_cons_succ]
  cases ρ[i]? with
  | none => rfl
  | some sl => cases sl <;> rfl
theorem slD_l {xs : List D} {lo hi : Option Int} {Q : D → Prop} : slD (.lst xs) lo hi Q = Q (.lst (cutD xs lo hi)) := rfl
theorem slD_t {xs : List D} {lo hi : Option Int} {Q : D → Prop} : slD (.tup xs) lo hi Q = (¬ (HT.sIx xs.length 0 lo = 0 ∧ HT.sIx xs.length xs.length hi = xs.length) ∧ Q (.tup (cutD xs lo hi))) := rfl

theorem roL_l {Q : D → Prop} {ds : List D} : roL Q (.lst ds) = Q (.lst ds) := propext ⟨fun z => z.2, fun z => ⟨rfl, z⟩⟩
theorem e_fnD {n m : Nat} {t : DS} {ds : List D} {Q : D → Prop} : fnD n m t ds Q = (ds.length = m ∧ t ⟨k_non Q, Q, k_no, k_no, roL Q⟩ (ds.map Slot.v ++ List.replicate (n - m) Slot.un)) := rfl
theorem e_sSeq {t u : DS} {N : DN} {ρ : List Slot} : sSeq t u N ρ = t { N with nx := u N } ρ := rfl
theorem e_sNext {N : DN} {ρ : List Slot} : sNext N ρ = N.nx ρ := rfl
theorem e_sBreak {N : DN} {ρ : List Slot} : sBreak N ρ = N.bk ρ := rfl
theorem e_sCont {N : DN} {ρ : List Slot} : sCont N ρ = N.ct ρ := rfl
theorem e_sSet {i : Nat} {t : DE} {N : DN} {ρ : List Slot} : sSet i t N ρ = t ρ (k_sSet i N ρ) := rfl
theorem e_sAsg {t : DE} {g : DG} {N : DN} {ρ : List Slot} : sAsg t g N ρ = t ρ (k_sAsg g N ρ) := rfl
theorem e_sAsg2 {i j : Nat} {t : DE} {N : DN} {ρ : List Slot} : sAsg2 i j t N ρ = t ρ (k_sAsg2 i j N ρ) := rfl
theorem e_sIf {c : DT} {t u : DS} {N : DN} {ρ : List Slot} : sIf c t u N ρ = c ρ (k_sIf t u N ρ) := rfl
theorem e_sRet {t : DE} {N : DN} {ρ : List Slot} : sRet t N ρ = t ρ N.rt := rfl
theorem e_sRetN {N : DN} {ρ : List Slot} : sRetN N ρ = N.rt .non := rfl
theorem e_sDrop {t : DE} {N : DN} {ρ : List Slot} : sDrop t N ρ = t ρ (k_sDrop N ρ) := rfl
theorem e_sNever {N : DN} {ρ : List Slot} : sNever N ρ = False := rfl
theorem e_sOwn {i : Nat} {t : DA} {N : DN} {ρ : List Slot} : sOwn i t N ρ = t ρ (k_sOwn i N ρ) := rfl
theorem e_sFrz {i : Nat} {t : DS} {N : DN} {ρ : List Slot} : sFrz i t N ρ = t N (frz i ρ) := rfl
theorem e_sFor {it : DI} {g : DG} {b : DS} {N : DN} {ρ : List Slot} : sFor it g b N ρ = it ρ (k_sFor g b N ρ) := rfl
theorem e_gN {i : Nat} {d : D} {ρ : List Slot} {Q : List Slot → Prop} : gN i d ρ Q = Q (ρ.set i (.v d)) := rfl
theorem e_gT_t {n : Nat} {gs : List D → List Slot → (List Slot → Prop) → Prop} {ds : List D} {ρ : List Slot} {Q : List Slot → Prop} : gT n gs (.tup ds) ρ Q = (ds.length = n ∧ gs ds ρ Q) := rfl
theorem e_gsNil_n {ρ : List Slot} {Q : List Slot → Prop} : gsNil [] ρ Q = ([] = ([] : List D) ∧ Q ρ) := rfl
theorem e_gsCons_c {g : DG} {gs : List D → List Slot → (List Slot → Prop) → Prop} {d : D} {r : List D} {ρ : List Slot} {Q : List Slot → Prop} : gsCons g gs (d :: r) ρ Q = g d ρ (k_gs gs r Q) := rfl
theorem e_dVar_0 {d : D} {ρ : List Slot} {Q : D → Prop} : dVar 0 (.v d :: ρ) Q = Q d := rfl
theorem e_dVar_0t {x : V} {d : D} {ρ : List Slot} {Q : D → Prop} : dVar 0 (.tg x d :: ρ) Q = Q d := rfl
theorem e_dC {d : D} {ρ : List Slot} {Q : D → Prop} : dC d ρ Q = Q d := rfl
theorem e_dOp {g : D2} {ta tb : DE} {ρ : List Slot} {Q : D → Prop} : dOp g ta tb ρ Q = ta ρ (k_dOp g tb ρ Q) := rfl
theorem e_dChain {g g' : D2} {ta tb tc : DE} {ρ : List Slot} {Q : D → Prop} : dChain g g' ta tb tc ρ Q = ta ρ (k_dCh1 g g' tb tc ρ Q) := rfl
theorem e_dUn {g : D → (D → Prop) → Prop} {ta : DE} {ρ : List Slot} {Q : D → Prop} : dUn g ta ρ Q = ta ρ (k_dUn g Q) := rfl
theorem e_dTest {t : DE} {ρ : List Slot} {Q : Bool → Prop} : dTest t ρ Q = t ρ (k_dTest Q) := rfl
theorem e_dAnd {t u : DT} {ρ : List Slot} {Q : Bool → Prop} : dAnd t u ρ Q = t ρ (k_dAnd u ρ Q) := rfl
theorem e_dOr {t u : DT} {ρ : List Slot} {Q : Bool → Prop} : dOr t u ρ Q = t ρ (k_dOr u ρ Q) := rfl
theorem e_dNot {t : DT} {ρ : List Slot} {Q : Bool → Prop} : dNot t ρ Q = t ρ (k_dNot Q) := rfl
theorem e_dAndV {ta tb : DE} {ρ : List Slot} {Q : D → Prop} : dAndV ta tb ρ Q = ta ρ (k_dAndV tb ρ Q) := rfl
theorem e_dOrV {ta tb : DE} {ρ : List Slot} {Q : D → Prop} : dOrV ta tb ρ Q = ta ρ (k_dOrV tb ρ Q) := rfl
theorem e_dIf {c : DT} {ta tb : DE} {ρ : List Slot} {Q : D → Prop} : dIf c ta tb ρ Q = c ρ (k_dIf ta tb ρ Q) := rfl
theorem e_dNil {ρ : List Slot} {Q : List D → Prop} : dNil ρ Q = Q [] := rfl
theorem e_dCons {ta : DE} {tr : DA} {ρ : List Slot} {Q : List D → Prop} : dCons ta tr ρ Q = ta ρ (k_dCons tr ρ Q) := rfl
theorem e_dTup {t : DA} {ρ : List Slot} {Q : D → Prop} : dTup t ρ Q = t ρ (k_dTup Q) := rfl
theorem e_dLst {t : DA} {ρ : List Slot} {Q : D → Prop} : dLst t ρ Q = t ρ (k_dLst Q) := rfl
theorem e_dCall {f : DSp} {dd : List D} {tr : DA} {ρ : List Slot} {Q : D → Prop} : dCall f dd tr ρ Q = tr ρ (k_dCall f dd Q) := rfl
theorem e_dB {g : DF} {tr : DA} {ρ : List Slot} {Q : D → Prop} : dB g tr ρ Q = tr ρ (k_dB g Q) := rfl
theorem e_dIsi {T : String} {t : DE} {ρ : List Slot} {Q : D → Prop} : dIsi T t ρ Q = t ρ (k_dIsi T Q) := rfl
theorem e_dIsi2 {T S : String} {t : DE} {ρ : List Slot} {Q : D → Prop} : dIsi2 T S t ρ Q = t ρ (k_dIsi2 T S Q) := rfl
theorem e_dSl {t : DE} {l h : DO} {ρ : List Slot} {Q : D → Prop} : dSl t l h ρ Q = t ρ (k_dSl l h ρ Q) := rfl
theorem e_dRev {t : DE} {ρ : List Slot} {Q : D → Prop} : dRev t ρ Q = t ρ (k_dRev Q) := rfl
theorem e_dNo {ρ : List Slot} {Q : Option Int → Prop} : dNo ρ Q = Q none := rfl
theorem e_dYes {ρ : List Slot} {Q : Bool → Prop} : dYes ρ Q = Q true := rfl
theorem e_dLc {it : DI} {g : DG} {tt : DT} {te : DE} {vs : List Nat} {ρ : List Slot} {Q : D → Prop} : dLc it g tt te vs ρ Q = it ρ (k_dLc g tt te (wipeD ρ vs) Q) := rfl
/-! ### closures of what is lent -/
def k_rtNl (Q : D → Prop) (d : D) : Prop := d.noLst = true ∧ Q d
theorem k_rtNl_q {Q : D → Prop} {d : D} : k_rtNl Q d = (d.noLst = true ∧ Q d) := rfl
theorem e_fnO {n m : Nat} {t : DS} {ds : List D} {Q : D → Prop} : fnO n m t ds Q = (ds.length = m ∧ t ⟨k_non Q, k_rtNl Q, k_no, k_no, Q⟩ (ds.map Slot.v ++ List.replicate (n - m) Slot.un)) := rfl
def k_sSetO (i : Nat) (N : DN) (ρ : List Slot) (d : D) : Prop := N.nx (ρ.set i (ownS d))
theorem k_sSetO_q {i : Nat} {N : DN} {ρ : List Slot} {d : D} : k_sSetO i N ρ d = N.nx (ρ.set i (ownS d)) := rfl
theorem e_sSetO {i : Nat} {t : DE} {N : DN} {ρ : List Slot} : sSetO i t N ρ = t ρ (k_sSetO i N ρ) := rfl
def k_sRetO (N : DN) (d : D) : Prop := if d.noLst = true then N.rt d else N.ro d
theorem k_sRetO_q {N : DN} {d : D} : k_sRetO N d = if d.noLst = true then N.rt d else N.ro d := rfl
theorem e_sRetO {t : DE} {N : DN} {ρ : List Slot} : sRetO t N ρ = t ρ (k_sRetO N) := rfl
def k_nl (Q : D → Prop) (d : D) : Prop := d.noLst = true ∧ Q d
theorem k_nl_q {Q : D → Prop} {d : D} : k_nl Q d = (d.noLst = true ∧ Q d) := rfl
def k_nls (Q : List D → Prop) (ds : List D) : Prop := D.noLsts ds = true ∧ Q ds
theorem k_nls_q {Q : List D → Prop} {ds : List D} : k_nls Q ds = (D.noLsts ds = true ∧ Q ds) := rfl
def k_nlc (Q : D → Prop) (d : D) : Prop := d.nlc = true ∧ Q d
theorem k_nlc_q {Q : D → Prop} {d : D} : k_nlc Q d = (d.nlc = true ∧ Q d) := rfl
theorem e_dBor {i : Nat} {t : DE} {ρ : List Slot} {Q : D → Prop} : dBor i t ρ Q = t (frz i ρ) (k_nl Q) := rfl
theorem e_dBorO {i : Nat} {t : DE} {ρ : List Slot} {Q : D → Prop} : dBorO i t ρ Q = t (frz i ρ) (k_nlc Q) := rfl
theorem e_dBorA {i : Nat} {t : DA} {ρ : List Slot} {Q : List D → Prop} : dBorA i t ρ Q = t (frz i ρ) (k_nls Q) := rfl
theorem e_dBorT {i : Nat} {t : DT} {ρ : List Slot} {Q : Bool → Prop} : dBorT i t ρ Q = t (frz i ρ) Q := rfl
theorem frz_0u {ρ : List Slot} : frz 0 (.un :: ρ) = .un :: ρ := rfl
theorem frz_0t {x : V} {d : D} {ρ : List Slot} : frz 0 (.tg x d :: ρ) = .tg x d :: ρ := rfl
def k_back (i : Nat) (vs : Nat → V) (d : D) (P : List Slot → Prop) (ρ ρ' : List Slot) : Prop := ρ'[i]? = some (.tg (vs i) d) ∧ ρ.length = ρ'.length ∧ P (backAll vs i 0 ρ ρ')
theorem k_back_q {i : Nat} {vs : Nat → V} {d : D} {P : List Slot → Prop} {ρ ρ' : List Slot} : k_back i vs d P ρ ρ' = (ρ'[i]? = some (.tg (vs i) d) ∧ ρ.length = ρ'.length ∧ P (backAll vs i 0 ρ ρ')) := rfl
def k_lend (i : Nat) (t : DS) (N : DN) (ρ : List Slot) (d : D) : Prop := ∀ vs : Nat → V, t ⟨k_back i vs d N.nx ρ, N.rt, k_back i vs d N.bk ρ, k_back i vs d N.ct ρ, N.ro⟩ (tagAll vs 0 (ρ.set i (.v d)))
theorem k_lend_q {i : Nat} {t : DS} {N : DN} {ρ : List Slot} {d : D} : k_lend i t N ρ d = ∀ vs : Nat → V, t ⟨k_back i vs d N.nx ρ, N.rt, k_back i vs d N.bk ρ, k_back i vs d N.ct ρ, N.ro⟩ (tagAll vs 0 (ρ.set i (.v d))) := rfl
theorem e_sLend {i : Nat} {t : DS} {N : DN} {ρ : List Slot} : sLend i t N ρ = ownD ρ[i]? (k_lend i t N ρ) := rfl
section
variable {vs : Nat → V} {i j : Nat} {ρ ρ' : List Slot} {d e : D} {ds : List D} {u w : V} {b : Bool} {s s' : Slot}
theorem tag_n : tagAll vs j [] = [] := rfl
theorem tag_c : tagAll vs j (s :: ρ) = tagS (vs j) s :: tagAll vs (j + 1) ρ := rfl
theorem tagS_v : tagS u (.v d) = .tg u d := rfl
theorem tagS_u : tagS u .un = .un := rfl
theorem tagS_o : tagS u (.own d) = .own d := rfl
theorem tagS_t : tagS u (.tg w d) = .tg w d := rfl
theorem back_n : backAll vs i j [] [] = [] := rfl
theorem back_c : backAll vs i j (s :: ρ) (s' :: ρ') = backS (decide (j = i)) (vs j) s s' :: backAll vs i (j + 1) ρ ρ' := rfl
theorem backS_vt : backS b u (.v d) (.tg u e) = .v d := if_pos rfl
theorem backS_tt : backS b u (.tg w d) (.tg w e) = .tg w d := if_pos rfl
theorem backS_ot : backS true u (.own d) (.tg u e) = .own d := if_pos ⟨rfl, rfl⟩
theorem backS_ut : backS b u .un (.tg w e) = .un := rfl
theorem backS_u : backS b u s .un = .un := by cases s <;> rfl
theorem backS_v : backS b u s (.v d) = if d.noLst = true then .v d else .un := by cases s <;> rfl
theorem backS_l : backS b u s (.own (.lst ds)) = if D.noLsts ds = true then .own (.lst ds) else .un := by cases s <;> rfl
theorem backS_d {kvs : List (D × D)} : backS b u s (.own (.dic kvs)) = if D.noLsts (kvs.map (·.2)) = true then .own (.dic kvs) else .un := by cases s <;> rfl
theorem ownS_l : ownS (.lst ds) = .own (.lst ds) := rfl
theorem ownS_d {kvs : List (D × D)} : ownS (.dic kvs) = .own (.dic kvs) := rfl
theorem ownS_t : ownS (.tup ds) = .v (.tup ds) := rfl
theorem ownS_i {i : Int} : ownS (.int i) = .v (.int i) := rfl
theorem ownS_n : ownS .non = .v .non := rfl
theorem noLst_l : (D.lst ds).noLst = false := rfl
theorem noLst_i {i : Int} : (D.int i).noLst = true := rfl
theorem noLst_b {i : Bool} : (D.bl i).noLst = true := rfl
theorem noLst_s {i : Str} : (D.str i).noLst = true := rfl
theorem noLst_n : D.non.noLst = true := rfl
theorem noLst_d {kvs : List (D × D)} : (D.dic kvs).noLst = false := rfl
theorem noLst_t : (D.tup ds).noLst = D.noLsts ds := by simp only [D.noLst]
theorem noLsts_n : D.noLsts [] = true := by simp only [D.noLsts]
theorem noLsts_c : D.noLsts (d :: ds) = (d.noLst && D.noLsts ds) := by simp only [D.noLsts]
theorem nlc_l : (D.lst ds).nlc = D.noLsts ds := rfl
theorem nlc_d {kvs : List (D × D)} : (D.dic kvs).nlc = D.noLsts (kvs.map (·.2)) := rfl
theorem nlc_i {i : Int} : (D.int i).nlc = true := rfl
theorem nlc_b {i : Bool} : (D.bl i).nlc = true := rfl
theorem nlc_t : (D.tup ds).nlc = D.noLsts ds := noLst_t
end
def ownK (s : Option Slot) (P : List (D × D) → Prop) : Prop := match s with
  | some (.own (.dic ds)) => P ds
  | _ => False
theorem ownK_o {ds : List (D × D)} {P : List (D × D) → Prop} : ownK (some (.own (.dic ds))) P = P ds := rfl
def k_put2 (i : Nat) (N : DN) (ρ : List Slot) (kvs : List (D × D)) (v k : D) : Prop := keyFor kvs k ∧ kvs.length < sizeLine ∧ N.nx (ρ.set i (.own (.dic (dputD kvs k v))))
theorem k_put2_q {i : Nat} {N : DN} {ρ : List Slot} {kvs : List (D × D)} {v k : D} : k_put2 i N ρ kvs v k = (keyFor kvs k ∧ kvs.length < sizeLine ∧ N.nx (ρ.set i (.own (.dic (dputD kvs k v))))) := rfl
def k_put1 (i : Nat) (tk : DE) (N : DN) (ρ : List Slot) (kvs : List (D × D)) (v : D) : Prop := tk ρ (k_put2 i N ρ kvs v)
theorem k_put1_q {i : Nat} {tk : DE} {N : DN} {ρ : List Slot} {kvs : List (D × D)} {v : D} : k_put1 i tk N ρ kvs v = tk ρ (k_put2 i N ρ kvs v) := rfl
def k_put (i : Nat) (tk tv : DE) (N : DN) (ρ : List Slot) (kvs : List (D × D)) : Prop := tv ρ (k_put1 i tk N ρ kvs)
theorem k_put_q {i : Nat} {tk tv : DE} {N : DN} {ρ : List Slot} {kvs : List (D × D)} : k_put i tk tv N ρ kvs = tv ρ (k_put1 i tk N ρ kvs) := rfl
theorem e_sPutD {i : Nat} {tk tv : DE} {N : DN} {ρ : List Slot} : sPutD i tk tv N ρ = ownK ρ[i]? (k_put i tk tv N ρ) := rfl
theorem e_dD0 {ρ : List Slot} {Q : D → Prop} : dD0 ρ Q = Q (.dic []) := rfl
theorem inKD_d {x : D} {kvs : List (D × D)} {Q : D → Prop} : inKD x (.dic kvs) Q = (keyFor kvs x ∧ Q (.bl (dgetD kvs x).isSome)) := rfl
theorem notInKD_d {x : D} {kvs : List (D × D)} {Q : D → Prop} : notInKD x (.dic kvs) Q = (keyFor kvs x ∧ Q (.bl (!(dgetD kvs x).isSome))) := rfl
end DV

/-! ### sum of lists, from a list on -/
namespace DV
open PySem PySem.Spec PyProof.Rows L2
section
variable {prog : Program} {w : World} {A : Around} {R : Result → Shared → Prop} {I : Addr} {fp wr : List Addr} {G : Array GenState → Array GenState → Prop} {n : Nat} {P : Nat → Value → Prop} {St : Nat → Shared → Prop}
end
section
variable {prog : Program} {w : World} {A : Around} {E : Value → Shared → Prop} {s : Shared}
end
section
variable {X : Cx} {K : PySem.W.Frag}
end
end DV

/-! ### slices with a step -/
namespace DV
open PySem PySem.Spec PyProof.Rows PyProof.V L2
def ixs (lo hi : Option Int) (c : Int) (n : Nat) : List Nat := (List.range (Builtin.Slice.slicePlaces (Builtin.Slice.sliceAdjust lo hi c n).1 (Builtin.Slice.sliceAdjust lo hi c n).2 c)).map fun (k : Nat) => ((Builtin.Slice.sliceAdjust lo hi c n).1 + (k : Int) * c).toNat
def ixsL (lo hi : Option Int) (c : Int) (n : Nat) : List Nat := sliceRange (sliceBounds lo hi (some c) n).1 (sliceBounds lo hi (some c) n).2.1 (sliceBounds lo hi (some c) n).2.2
def pick {α : Type} (xs : List α) (l : List Nat) : List α := l.filterMap (xs[·]?)
section
variable {prog : Program} {w : World} {A : Around} {E : Value → Shared → Prop} {s : Shared}
end
def sl3D (x : D) (lo hi st : Option Int) (Q : D → Prop) : Prop := match st with
  | none => False
  | some c => c ≠ 0 ∧ (match x with
    | .lst ds => Q (.lst (pick ds (ixsL lo hi c ds.length)))
    | .tup ds => c ≠ 1 ∧ (pick ds (ixs lo hi c ds.length)).length ≤ sizeLine ∧ Q (.tup (pick ds (ixs lo hi c ds.length)))
    | _ => False)
def dSl3 (t : DE) (l h c : DO) : DE := fun ρ Q => t ρ fun x => l ρ fun lo => h ρ fun hi => c ρ fun st => sl3D x lo hi st Q
end DV

namespace DV
open PySem PySem.Spec PyProof.Rows L2 PySem.SeqAt
open AutoSeq1 (wpAny_loadPart')
open MeetsSeq MeetsSeq2 MeetsSeq3 SeqRoads2

/-! ### the order of nested keys -/
abbrev Tk := Int ⊕ List Nat
abbrev lexT (a b : List Tk) : Bool := PyProof.Rows.lexLt itemOrd a b
theorem lexT_one (p q : Tk) : lexT [p] [q] = itemLt p q := W.lex_one p q
mutual
def tkN : NestedKey → List Tk
  | .none => [.inl 0]
  | .num i => [.inl i]
  | .text x => [.inr x.cps.toList]
  | .tup ks => tksN ks
def tksN : List NestedKey → List Tk
  | [] => [.inl 0]
  | k :: ks => .inl 1 :: (tkN k ++ tksN ks)
end
def ltN (x y : NestedKey) : Bool := lexT (tkN x) (tkN y)
mutual
/-- x < y may be asked -/
def LOk : NestedKey → NestedKey → Prop
  | .num _, .num _ => True
  | .text _, .text _ => True
  | .tup a, .tup b => LOks a b
  | _, _ => False
def LOks : List NestedKey → List NestedKey → Prop
  | x :: xs, y :: ys => (x = y → LOks xs ys) ∧ (x ≠ y → LOk x y)
  | _, _ => True
end
theorem lexT_app {x y : Tk} (h : x ≠ y) (l m : List Tk) : lexT (x :: l) (y :: m) = lexT [x] [y] := W.lex_atom h l m
mutual
theorem ltN_app : ∀ (x y : NestedKey), LOk x y → x ≠ y → ∀ l m, lexT (tkN x ++ l) (tkN y ++ m) = lexT (tkN x) (tkN y)
  | .num i, .num j, _, n, l, m => by
    simp only [tkN, List.cons_append, List.nil_append]
    exact lexT_app (fun z => n (by injection z with z; rw [z])) _ _
  | .text a, .text b, _, n, l, m => by
    simp only [tkN, List.cons_append, List.nil_append]
    exact lexT_app (fun z => n (by injection z with z; rw [W.str_of_cps z])) _ _
  | .tup a, .tup b, h, n, l, m => by
    simp only [tkN]
    simp only [LOk] at h
    exact ltNs_app a b h (fun z => n (by rw [z])) l m
  | .none, _, h, _, _, _ => by simp [LOk] at h
  | .num _, .none, h, _, _, _ => by simp [LOk] at h
  | .num _, .text _, h, _, _, _ => by simp [LOk] at h
  | .num _, .tup _, h, _, _, _ => by simp [LOk] at h
  | .text _, .none, h, _, _, _ => by simp [LOk] at h
  | .text _, .num _, h, _, _, _ => by simp [LOk] at h
  | .text _, .tup _, h, _, _, _ => by simp [LOk] at h
  | .tup _, .none, h, _, _, _ => by simp [LOk] at h
  | .tup _, .num _, h, _, _, _ => by simp [LOk] at h
  | .tup _, .text _, h, _, _, _ => by simp [LOk] at h
theorem ltNs_app : ∀ (xs ys : List NestedKey), LOks xs ys → xs ≠ ys → ∀ l m, lexT (tksN xs ++ l) (tksN ys ++ m) = lexT (tksN xs) (tksN ys)
  | [], [], _, n, _, _ => absurd rfl n
  | [], y :: ys, _, _, l, m => by
    simp only [tksN, List.cons_append, List.nil_append]
    exact (lexT_app (fun z => by cases z) _ _).trans (lexT_app (fun z => by cases z) _ _).symm
  | x :: xs, [], _, _, l, m => by
    simp only [tksN, List.cons_append, List.nil_append]
    exact (lexT_app (fun z => by cases z) _ _).trans (lexT_app (fun z => by cases z) _ _).symm
  | x :: xs, y :: ys, h, n, l, m => by
    simp only [LOks] at h
    simp only [tksN, List.cons_append, List.append_assoc]
    by_cases e : x = y
    · subst e
      have e1 := W.lex_pre (Sum.inl 1 :: tkN x) (tksN xs ++ l) (tksN ys ++ m)
      have e2 := W.lex_pre (Sum.inl 1 :: tkN x) (tksN xs) (tksN ys)
      rw [List.cons_append] at e1 e2
      rw [List.cons_append] at e1 e2
      exact e1.trans ((ltNs_app xs ys (h.1 rfl) (fun z => n (by rw [z])) l m).trans e2.symm)
    · have k := h.2 e
      have e1 := W.lex_pre [Sum.inl 1] (tkN x ++ (tksN xs ++ l)) (tkN y ++ (tksN ys ++ m))
      have e2 := W.lex_pre [Sum.inl 1] (tkN x ++ tksN xs) (tkN y ++ tksN ys)
      simp only [List.cons_append, List.nil_append] at e1 e2
      exact e1.trans ((ltN_app x y k e _ _).trans ((ltN_app x y k e _ _).symm.trans e2.symm))
end
theorem ltNs_nn : lexT (tksN []) (tksN []) = false := lex_irrefl (O := itemOrd) _
theorem ltNs_nc {y : NestedKey} {ys : List NestedKey} : lexT (tksN []) (tksN (y :: ys)) = true := by
  simp only [tksN]
  rw [lexT_app (fun z => by cases z)]
  rw [lexT_one]
  rfl
theorem ltNs_cn {y : NestedKey} {ys : List NestedKey} : lexT (tksN (y :: ys)) (tksN []) = false := by
  simp only [tksN]
  rw [lexT_app (fun z => by cases z)]
  rw [lexT_one]
  rfl
theorem ltNs_eq {x : NestedKey} {xs ys : List NestedKey} : lexT (tksN (x :: xs)) (tksN (x :: ys)) = lexT (tksN xs) (tksN ys) := by
  have e2 := W.lex_pre (Sum.inl 1 :: tkN x) (tksN xs) (tksN ys)
  rw [List.cons_append, List.cons_append] at e2
  simp only [tksN]
  exact e2
theorem ltNs_ne {x y : NestedKey} {xs ys : List NestedKey} (h : LOk x y) (n : x ≠ y) : lexT (tksN (x :: xs)) (tksN (y :: ys)) = ltN x y := by
  have e2 := W.lex_pre [Sum.inl 1] (tkN x ++ tksN xs) (tkN y ++ tksN ys)
  simp only [List.cons_append, List.nil_append] at e2
  simp only [tksN]
  exact e2.trans (ltN_app x y h n _ _)
theorem ltN_num {i j : Int} : ltN (.num i) (.num j) = decide (i < j) := by
  unfold ltN
  simp only [tkN]
  rw [lexT_one]; rfl
theorem ltN_text {x y : Str} : ltN (.text x) (.text y) = decide (x.cps.toList < y.cps.toList) := by
  have := W.dataLt_str x y
  unfold W.dataLt at this
  simp only [W.keyToks] at this
  unfold ltN
  simp only [tkN]
  exact this
theorem ltN_tup {xs ys : List NestedKey} : ltN (.tup xs) (.tup ys) = lexT (tksN xs) (tksN ys) := by
  unfold ltN
  simp only [tkN]

/-! values -/
mutual
inductive Sv (h : Heap) : NestedKey → Value → Prop
  | num (i t) : Sv h (.num i) (.int i t)
  | text (x t) : Sv h (.text x) (.str x t)
  | tup {a o vs n ks} : h.get? a = some o → o.cls = .type "tuple" → o.data = .seq vs n → Svs h ks vs.toList → Sv h (.tup ks) (.ref a)
inductive Svs (h : Heap) : List NestedKey → List Value → Prop
  | nil : Svs h [] []
  | cons {k v ks vs} : Sv h k v → Svs h ks vs → Svs h (k :: ks) (v :: vs)
end
mutual
theorem Sv.nested {h : Heap} : ∀ {k : NestedKey} {v : Value}, Sv h k v → NestedIs h k v
  | _, _, .num i t => .int i t
  | _, _, .text x t => .text x t
  | _, _, .tup h1 h2 h3 h4 => .tup h1 h2 h3 (Svs.nested h4)
theorem Svs.nested {h : Heap} : ∀ {k : List NestedKey} {v : List Value}, Svs h k v → NestedAll h k v
  | _, _, .nil => .nil
  | _, _, .cons a b => .cons (Sv.nested a) (Svs.nested b)
end
mutual
theorem Sv.at' {h h' : Heap} (k : ∀ b o, h.get? b = some o → o.cls = .type "tuple" → h'.get? b = some o) : ∀ {x : NestedKey} {v : Value}, Sv h x v → Sv h' x v
  | _, _, .num i t => .num i t
  | _, _, .text x t => .text x t
  | _, _, .tup h1 h2 h3 h4 => .tup (k _ _ h1 h2) h2 h3 (Svs.at' k h4)
theorem Svs.at' {h h' : Heap} (k : ∀ b o, h.get? b = some o → o.cls = .type "tuple" → h'.get? b = some o) : ∀ {x : List NestedKey} {v : List Value}, Svs h x v → Svs h' x v
  | _, _, .nil => .nil
  | _, _, .cons a b => .cons (Sv.at' k a) (Svs.at' k b)
end
/-- two rows of values, compared from the left: the first that differ decide -/
inductive Lx (A : Around) (s : Shared) : List Value → List Value → Bool → Prop
  | nn : Lx A s [] [] false
  | nc {y ys} : Lx A s [] (y :: ys) true
  | cn {x xs} : Lx A s (x :: xs) [] false
  | eq {x y xs ys k} : EqAt A s x y true → Lx A s xs ys k → Lx A s (x :: xs) (y :: ys) k
  | ne {x y xs ys k} : EqAt A s x y false → RcLt A s x y k → Lx A s (x :: xs) (y :: ys) k
theorem tuple_ltL (l b : Addr) (xs ys : Array Value) (n n2 : Nat) (dd dd2 : Option Addr) (sl sl2 : Array (Option Value)) (k : Bool) :
    Meets (Builtin.«tuple.__lt__» ⟨[.ref l, .ref b], []⟩)
      (fun A R s => s.heap.get? l = some { cls := .type "tuple", dict := dd, data := .seq xs n, slots := sl } ∧ s.heap.get? b = some { cls := .type "tuple", dict := dd2, data := .seq ys n2, slots := sl2 } ∧
        Lx A.in1 s xs.toList ys.toList k ∧ R (.ok (.ret (.bool k))) s) :=
  .of_wp fun prog w A R s h => by
    obtain ⟨hp, g, d, tk, os⟩ := s
    obtain ⟨hl, hb, hx, h⟩ := h
    have f2 := AutoSeq1.sub_tuple_tuple
    wp_walk using wpAny_loadPart' hl, wpAny_loadPart' hb, wpAny_forIn_list _ (fun rest b s' => b.1 = none ∧ s' = ⟨hp, g, d, tk, os⟩ ∧ ∃ p q, rest = List.zip p q ∧ xs.toList.length + q.length = ys.toList.length + p.length ∧ Lx A.in1 ⟨hp, g, d, tk, os⟩ p q k) _
    case turn =>
      rintro ⟨y, x⟩ rest b s' ⟨hb', rfl, p, q, hz, hc, hL⟩
      cases hL with
      | nn => cases hz
      | nc => cases hz
      | cn => cases hz
      | eq e1 e2 =>
        rw [List.zip_cons_cons] at hz
        injection hz with hz1 hz2
        cases hz1
        refine wpAny_bind (e1 prog w _ _ ?_)
        wp_walk
        exact ⟨rfl, rfl, _, _, hz2, by simp only [List.length_cons] at hc; omega, e2⟩
      | ne e1 e2 =>
        rw [List.zip_cons_cons] at hz
        injection hz with hz1 hz2
        cases hz1
        refine wpAny_bind (e1 prog w _ _ ?_)
        rw [if_pos (by rfl)]
        refine wpAny_bind (wpAny_rule ?_)
        refine wpAny_bind (e2 prog w _ _ ?_)
        wp_walk
        exact ⟨_, rfl, h⟩
    case fin =>
      rintro ⟨b1, b2⟩ s' ⟨hb', rfl, p, q, hz, hc, hL⟩
      simp only at hb'
      subst hb'
      have fin : k = decide (xs.size < ys.size) := by
        cases hL with
        | nn =>
          simp only [List.length_nil, Array.length_toList] at hc
          exact (decide_eq_false (by omega)).symm
        | nc =>
          simp only [List.length_nil, List.length_cons, Array.length_toList] at hc
          exact (decide_eq_true (by omega)).symm
        | cn =>
          simp only [List.length_nil, List.length_cons, Array.length_toList] at hc
          exact (decide_eq_false (by omega)).symm
        | eq e1 e2 => cases hz
        | ne e1 e2 => cases hz
      rw [fin] at h
      wp_walk
      exact ⟨_, rfl, by simpa [Builtin.Tuple.tupleCompareSizes] using h⟩
    case h =>
      exact ⟨rfl, rfl, _, _, rfl, by omega, hx⟩
theorem RcLt.tuplesL {A : Around} {s : Shared} {l b : Addr} {xs ys : Array Value} {k : Bool} (hl : s.heap.IsTuple l xs) (hb : s.heap.IsTuple b ys) (hu : A.units < cLine) (hx : Lx A.in1 s xs.toList ys.toList k) : RcLt A s (.ref l) (.ref b) k := fun prog w E Q h => by
  obtain ⟨⟨cls, dd, data, sl⟩, ho, hc, n, hd⟩ := id hl
  obtain ⟨⟨cls2, dd2, data2, sl2⟩, ho2, hc2, n2, hd2⟩ := id hb
  simp only at hc hd hc2 hd2
  subst hc hd hc2 hd2
  exact richCompare_meets_room (op := .Lt) ⟨_, ho, rfl⟩ ⟨_, ho2, rfl⟩ F.slot_tuple_lt F.entry_tuple_lt (F.args_tuple_lt_2 _ _) (tuple_ltL l b xs ys n n2 dd dd2 sl sl2 k)
    ⟨ho, ho2, hx, show Value.bool k ≠ Value.notImplemented ∧ Q (.bool k) s from ⟨(fun x => nomatch x), h⟩⟩ hu
end DV

namespace DV
open PySem PySem.Spec PyProof.Rows L2 PySem.SeqAt

/-! ### < on values -/
mutual
theorem rcLt_n : ∀ (x y : NestedKey) (A : Around) (s : Shared) (a b : Value), Sv s.heap x a → Sv s.heap y b → LOk x y → A.units + min x.depth y.depth < cLine → RcLt A s a b (ltN x y)
  | .num i, .num j, A, s, _, _, .num _ t, .num _ u, _, _ => fun prog w E Q h => by
    rw [ltN_num] at h
    exact lt_int h
  | .text x, .text y, A, s, _, _, .text _ t, .text _ u, _, _ => fun prog w E Q h => by
    rw [ltN_text] at h
    exact lt_str h
  | .tup xs, .tup ys, A, s, _, _, .tup h1 h2 h3 h4, .tup k1 k2 k3 k4, h, hu => by
    simp only [LOk] at h
    rw [ltN_tup]
    exact RcLt.tuplesL ⟨_, h1, h2, _, h3⟩ ⟨_, k1, k2, _, k3⟩ (room_here hu) (lx_n xs ys A.in1 s _ _ h4 k4 h (by simp only [NestedKey.depth, Around.in1_units] at hu ⊢; omega))
  | .none, _, _, _, _, _, _, _, h, _ => by simp [LOk] at h
  | .num _, .none, _, _, _, _, _, _, h, _ => by simp [LOk] at h
  | .num _, .text _, _, _, _, _, _, _, h, _ => by simp [LOk] at h
  | .num _, .tup _, _, _, _, _, _, _, h, _ => by simp [LOk] at h
  | .text _, .none, _, _, _, _, _, _, h, _ => by simp [LOk] at h
  | .text _, .num _, _, _, _, _, _, _, h, _ => by simp [LOk] at h
  | .text _, .tup _, _, _, _, _, _, _, h, _ => by simp [LOk] at h
  | .tup _, .none, _, _, _, _, _, _, h, _ => by simp [LOk] at h
  | .tup _, .num _, _, _, _, _, _, _, h, _ => by simp [LOk] at h
  | .tup _, .text _, _, _, _, _, _, _, h, _ => by simp [LOk] at h
theorem lx_n : ∀ (xs ys : List NestedKey) (A : Around) (s : Shared) (vs ws : List Value), Svs s.heap xs vs → Svs s.heap ys ws → LOks xs ys → A.units + min (NestedKey.depthAll xs) (NestedKey.depthAll ys) < cLine → Lx A s vs ws (lexT (tksN xs) (tksN ys))
  | [], [], A, s, _, _, .nil, .nil, _, _ => by rw [ltNs_nn]; exact .nn
  | [], y :: ys, A, s, _, _, .nil, .cons _ _, _, _ => by rw [ltNs_nc]; exact .nc
  | x :: xs, [], A, s, _, _, .cons _ _, .nil, _, _ => by rw [ltNs_cn]; exact .cn
  | x :: xs, y :: ys, A, s, _, _, .cons a1 a2, .cons b1 b2, h, hu => by
    simp only [LOks] at h
    simp only [NestedKey.depthAll] at hu
    have e := eqAt_key x y A s _ _ a1.nested b1.nested (by omega)
    rw [← NestedKey.decide_eq] at e
    by_cases z : x = y
    · rw [decide_eq_true z] at e
      have k := lx_n xs ys A s _ _ a2 b2 (h.1 z) (by omega)
      subst z
      rw [ltNs_eq]
      exact .eq e k
    · rw [decide_eq_false z] at e
      rw [ltNs_ne (h.2 z) z]
      exact .ne e (rcLt_n x y A s _ _ a1 b1 (h.2 z) (by omega))
end
/-- the first items are of one plain type -/
def flatK : NestedKey → Bool
  | .num _ => true
  | .text _ => true
  | _ => false
section
variable {prog : Program} {w : World} {A : Around} {E : Value → Shared → Prop} {s : Shared}
theorem oneLt_n {b : Bool} {x y : NestedKey} {p q : Value} {Q : Bool → Shared → Prop} (hb : b = true → flatK x = true) (hx : Sv s.heap x p) (hy : Sv s.heap y q) (h : LOk x y) (hu : A.units + min x.depth y.depth < cLine) (hQ : Q (ltN x y) s) : wpAny (model prog w) A (oneLt' b p q) Q E s := by
  cases b with
  | false => exact W.kat_one _ _ (rcLt_n x y A s p q hx hy h hu prog w _ _ hQ)
  | true =>
    have f := hb rfl
    cases hx with
    | num i t =>
      cases hy with
      | num j u => rw [ltN_num] at hQ; exact oneLt_int hQ
      | text _ _ => simp [LOk] at h
      | tup _ _ _ _ => simp [LOk] at h
    | text i t =>
      cases hy with
      | text j u => rw [ltN_text] at hQ; exact PyProof.Rows.oneLt_str hQ
      | num _ _ => simp [LOk] at h
      | tup _ _ _ _ => simp [LOk] at h
    | tup _ _ _ _ => simp [flatK] at f
theorem katL_n {b fin : Bool} {Q : Bool → Shared → Prop} : ∀ (xs ys : List NestedKey) (vs ws : List Value) (i : Nat), Svs s.heap xs vs → Svs s.heap ys ws → LOks xs ys → A.units + min (NestedKey.depthAll xs) (NestedKey.depthAll ys) < cLine →
    (i = 0 → b = true → ∀ x r, xs = x :: r → flatK x = true) → fin = decide (vs.length < ws.length) → Q (lexT (tksN xs) (tksN ys)) s → W.KatLex prog w A b fin Q (vs.zip ws) i s
  | [], [], _, _, i, .nil, .nil, _, _, _, hf, hQ => by
    rw [ltNs_nn] at hQ
    subst hf
    exact W.kat_nil (by simpa using hQ)
  | [], y :: ys, _, _, i, .nil, .cons _ _, _, _, _, hf, hQ => by
    rw [ltNs_nc] at hQ
    subst hf
    exact W.kat_nil (by simpa using hQ)
  | x :: xs, [], _, _, i, .cons _ _, .nil, _, _, _, hf, hQ => by
    rw [ltNs_cn] at hQ
    subst hf
    exact W.kat_nil (by simpa using hQ)
  | x :: xs, y :: ys, _, _, i, .cons (v := v) (vs := vs) a1 a2, .cons (v := v2) (vs := vs2) b1 b2, h, hu, hb, hf, hQ => by
    simp only [LOks] at h
    simp only [NestedKey.depthAll] at hu
    have e := eqAt_key x y A s _ _ a1.nested b1.nested (by omega)
    rw [← NestedKey.decide_eq] at e
    rw [List.zip_cons_cons]
    refine W.kat_cons (e prog w _ _ ?_)
    by_cases z : x = y
    · rw [decide_eq_true z]
      refine W.kat_yes ?_
      have k := h.1 z
      subst z
      rw [ltNs_eq] at hQ
      exact katL_n xs ys _ _ (i + 1) a2 b2 k (by omega) (fun z => absurd z (by omega)) (by rw [hf]; simp) hQ
    · rw [decide_eq_false z]
      rw [ltNs_ne (h.2 z) z] at hQ
      refine W.kat_no (oneLt_n (fun hb' => ?_) a1 b1 (h.2 z) (by omega) hQ)
      simp only [Bool.and_eq_true, beq_iff_eq] at hb'
      exact hb hb'.2 hb'.1 x xs rfl
end

/-! ### sorting -/
theorem ltN_swo {α : Type} (f : α → NestedKey) : SrtO.Swo fun u v => ltN (f u) (f v) := by
  refine ⟨fun x y h => ?_, fun x y z h1 h2 => ?_⟩
  · cases e : ltN (f y) (f x) with
    | false => rfl
    | true =>
      have := lex_trans (O := itemOrd) _ _ _ h e
      rw [lex_irrefl] at this
      cases this
  · cases e : ltN (f z) (f x) with
    | false => rfl
    | true =>
      rcases lex_negTrans (O := itemOrd) _ (tkN (f y)) _ e with k | k
      · have : ltN (f z) (f y) = true := k
        rw [h2] at this; cases this
      · have : ltN (f y) (f x) = true := k
        rw [h1] at this; cases this
open Classical in
/-- the key that a value is -/
noncomputable def keyAt (h : Heap) (v : Value) : NestedKey := if z : ∃ k, Sv h k v then z.choose else .none
theorem keyAt_of {h : Heap} {k : NestedKey} {v : Value} (x : Sv h k v) : keyAt h v = k := by
  have z : ∃ k, Sv h k v := ⟨k, x⟩
  unfold keyAt
  rw [dif_pos z]
  exact NestedIs.inj _ _ v z.choose_spec.nested x.nested
/-- what may be sorted: one kind of things, each two comparable -/
def kindN : NestedKey → Option Nat
  | .num _ => some 0
  | .text _ => some 1
  | .tup (.num _ :: _) => some 2
  | .tup (.text _ :: _) => some 3
  | .tup (.tup _ :: _) => some 4
  | _ => none
structure SrtN (ks : List NestedKey) : Prop where
  kind : ∃ n, ∀ k ∈ ks, kindN k = some n
  ok : ∀ k ∈ ks, ∀ j ∈ ks, LOk k j
  deep : ∀ k ∈ ks, k.depth ≤ 8
theorem svs_mem {h : Heap} : ∀ {ks : List NestedKey} {vs : List Value}, Svs h ks vs → ∀ v ∈ vs, ∃ k ∈ ks, Sv h k v
  | _, _, .nil, v, hv => nomatch hv
  | _, _, .cons a t, v, hv => by
    rcases List.mem_cons.mp hv with rfl | hv
    · exact ⟨_, List.mem_cons_self, a⟩
    · obtain ⟨k, hk, z⟩ := svs_mem t v hv
      exact ⟨k, List.mem_cons_of_mem _ hk, z⟩
theorem svs_ints {h : Heap} : ∀ {ks : List NestedKey} {vs : List Value}, Svs h ks vs → (∀ k ∈ ks, kindN k = some 0) → ∃ ns, IntsAre vs ns
  | _, _, .nil, _ => ⟨[], .nil⟩
  | _, _, .cons a t, g => by
    obtain ⟨ns, r⟩ := svs_ints t fun k hk => g k (List.mem_cons_of_mem _ hk)
    have := g _ List.mem_cons_self
    cases a with
    | num i t => exact ⟨i :: ns, .cons i t r⟩
    | text _ _ => simp [kindN] at this
    | @tup _ _ _ _ ks _ _ _ _ =>
      cases ks with
      | nil => simp [kindN] at this
      | cons k ks => cases k <;> simp [kindN] at this
theorem svs_strs {h : Heap} : ∀ {ks : List NestedKey} {vs : List Value}, Svs h ks vs → (∀ k ∈ ks, kindN k = some 1) → ∃ ns, StrsAre vs ns
  | _, _, .nil, _ => ⟨[], .nil⟩
  | _, _, .cons a t, g => by
    obtain ⟨ns, r⟩ := svs_strs t fun k hk => g k (List.mem_cons_of_mem _ hk)
    have := g _ List.mem_cons_self
    cases a with
    | text i t => exact ⟨i :: ns, .cons i t r⟩
    | num _ _ => simp [kindN] at this
    | @tup _ _ _ _ ks _ _ _ _ =>
      cases ks with
      | nil => simp [kindN] at this
      | cons k ks => cases k <;> simp [kindN] at this
/-- the first items -/
theorem svs_firsts {h : Heap} {n : Nat} (hn : 2 ≤ n) : ∀ {ks : List NestedKey} {vs : List Value}, Svs h ks vs → (∀ k ∈ ks, kindN k = some n) → ∃ fs, W.KatTups h vs fs ∧ fs.length = vs.length ∧ ∀ f ∈ fs, ∃ k, Sv h k f ∧ ∃ r, kindN (.tup (k :: r)) = some n
  | _, _, .nil, _ => ⟨[], W.KatTups.nil, rfl, fun _ z => nomatch z⟩
  | _, _, .cons a t, g => by
    obtain ⟨fs, k1, k2, k3⟩ := svs_firsts hn t fun k hk => g k (List.mem_cons_of_mem _ hk)
    have g0 := g _ List.mem_cons_self
    cases a with
    | text i t => simp only [kindN, Option.some.injEq] at g0; omega
    | num i t => simp only [kindN, Option.some.injEq] at g0; omega
    | @tup a o vs m ks h1 h2 h3 h4 =>
      generalize hl : vs.toList = l at h4
      cases h4 with
      | nil => simp [kindN] at g0
      | @cons k v ks vs' b1 b2 =>
        refine ⟨v :: fs, W.KatTups.cons h1 h2 h3 ?_ k1, by simp [k2], fun f hf => ?_⟩
        · rw [← Array.getElem?_toList, hl]; rfl
        · rcases List.mem_cons.mp hf with rfl | hf
          · exact ⟨k, b1, ks, g0⟩
          · exact k3 f hf
section
variable {prog : Program} {w : World} {A : Around} {E : Value → Shared → Prop} {s : Shared}
theorem sortable_n {f : Value → NestedKey} {a : Addr} {ks : List NestedKey} {vs : List Value} (hv : Svs s.heap ks vs) (hf : ∀ v ∈ vs, ∀ k, Sv s.heap k v → f v = k) (S : SrtN ks) (h2 : 2 ≤ vs.length) (ha : ∀ o, s.heap.get? a = some o → o.cls ≠ .type "tuple") (hu : A.units + 8 < cLine) : SrtO.SortableO prog w A s a vs fun u v => ltN (f u) (f v) := by
  intro h' keep
  have kp : ∀ b o, s.heap.get? b = some o → o.cls = .type "tuple" → h'.get? b = some o := fun b o e c => keep b o (fun z => by subst z; exact ha o e c) e
  have hv' := hv.at' kp
  obtain ⟨n, hn⟩ := S.kind
  have two : ∃ v₁ v₂ rest, vs = v₁ :: v₂ :: rest := by
    match vs, h2 with
    | v₁ :: v₂ :: rest, _ => exact ⟨v₁, v₂, rest, rfl⟩
  have cmp1 : (n = 0 ∨ n = 1) → SrtO.Cmp prog w A { s with heap := h' } oneType' (fun p => p.1 ∈ vs) (SrtO.lt2 fun u v => ltN (f u) (f v)) := fun hn01 p q hp hq => by
    obtain ⟨k, hk, z⟩ := svs_mem hv _ hp
    obtain ⟨j, hj, z'⟩ := svs_mem hv _ hq
    rw [keyLt'_oneType]
    refine oneLt_n (s := { s with heap := h' }) (x := k) (y := j) (fun _ => ?_) (z.at' kp) (z'.at' kp) (S.ok k hk j hj) ?_ ⟨rfl, ?_⟩
    · have := hn k hk
      cases k with
      | num _ => rfl
      | text _ => rfl
      | none => simp [kindN] at this
      | tup ks =>
        cases ks with
        | nil => simp [kindN] at this
        | cons x ks => rcases hn01 with rfl | rfl <;> cases x <;> simp [kindN] at this
    · have := S.deep k hk
      omega
    · show ltN k j = ltN (f p.1) (f q.1)
      rw [hf _ hp _ z, hf _ hq _ z']
  have cmpT : ∀ b : Bool, 2 ≤ n → (b = true → n ≠ 4) → SrtO.Cmp prog w A { s with heap := h' } (tuples' b) (fun p => p.1 ∈ vs) (SrtO.lt2 fun u v => ltN (f u) (f v)) := fun b hn2 hb p q hp hq => by
    obtain ⟨k, hk, z⟩ := svs_mem hv _ hp
    obtain ⟨j, hj, z'⟩ := svs_mem hv _ hq
    have e1 := hn k hk
    have e2 := hn j hj
    have ek : f p.1 = k := hf _ hp _ z
    have ej : f q.1 = j := hf _ hq _ z'
    have dk := S.deep k hk
    have ok := S.ok k hk j hj
    have y := z.at' kp
    have y' := z'.at' kp
    show wpAny (model prog w) A (keyLt' (tuples' b) p.1 q.1) (fun r s' => s' = { s with heap := h' } ∧ r = ltN (f p.1) (f q.1)) (fun _ _ => False) _
    rw [ek, ej]
    generalize p.1 = pv at y
    generalize q.1 = qv at y'
    cases y with
    | num i t => simp only [kindN, Option.some.injEq] at e1; omega
    | text i t => simp only [kindN, Option.some.injEq] at e1; omega
    | @tup a1 o1 vs1 n1 ks1 g1 g2 g3 g4 =>
      cases y' with
      | num i t => simp only [kindN, Option.some.injEq] at e2; omega
      | text i t => simp only [kindN, Option.some.injEq] at e2; omega
      | @tup a2 o2 vs2 n2 ks2 f1 f2 f3 f4 =>
        simp only [LOk] at ok
        simp only [NestedKey.depth] at dk
        refine W.kat_lt (s := { s with heap := h' }) g1 g3 f1 f3 ?_
        refine katL_n (s := { s with heap := h' }) ks1 ks2 _ _ 0 g4 f4 ok (by omega) (fun _ hb' x r e => ?_) (by simp) ⟨rfl, ltN_tup.symm⟩
        subst e
        cases x with
        | num _ => rfl
        | text _ => rfl
        | none => simp [kindN] at e1
        | tup _ => simp only [kindN, Option.some.injEq] at e1; exact absurd e1.symm (hb hb')
  by_cases n0 : n = 0
  · subst n0
    obtain ⟨ns, r⟩ := svs_ints hv' hn
    obtain ⟨v₁, v₂, rest, rfl⟩ := two
    exact ⟨oneType', fun Q E hq => by rw [keyKind_ints r]; exact wpAny_pure hq, cmp1 (.inl rfl)⟩
  by_cases n1 : n = 1
  · subst n1
    obtain ⟨ns, r⟩ := svs_strs hv' hn
    obtain ⟨v₁, v₂, rest, rfl⟩ := two
    exact ⟨oneType', fun Q E hq => by rw [keyKind_strs r]; exact wpAny_pure hq, cmp1 (.inr rfl)⟩
  have hn2 : 2 ≤ n := by omega
  obtain ⟨fs, k1, k2, k3⟩ := svs_firsts hn2 hv' hn
  have hfs : 0 < fs.length := by omega
  by_cases n4 : n = 4
  · subst n4
    refine ⟨tuples' false, fun Q E hq => ?_, cmpT false hn2 (fun z => nomatch z)⟩
    refine W.kat_kind (s := { s with heap := h' }) (T := .type "tuple") k1 hfs (fun fv hfv => ?_) rfl ?_
    · obtain ⟨k, z, r, e⟩ := k3 fv hfv
      cases z with
      | num _ _ => simp [kindN] at e
      | text _ _ => simp [kindN] at e
      | @tup a o vs m ks h1 h2 h3 h4 =>
        have z : PySem.W.Looks (model prog w) h' (typeOf (.ref a)) o.cls := (PySem.W.Looks.ld h1).andThen .now
        rw [h2] at z
        exact z
    · have hb : (Value.type "tuple" != Value.type "tuple") = false := by first | rfl | decide | simp
      rw [hb]; exact hq
  · by_cases n2 : n = 2
    · subst n2
      refine ⟨tuples' true, fun Q E hq => ?_, cmpT true hn2 (fun _ => by decide)⟩
      refine W.kat_kind (s := { s with heap := h' }) (T := .type "int") k1 hfs (fun fv hfv => ?_) rfl ?_
      · obtain ⟨k, z, r, e⟩ := k3 fv hfv
        cases z with
        | num _ _ => exact PySem.W.Looks.now
        | text _ _ => simp [kindN] at e
        | tup _ _ _ _ => simp [kindN] at e
      · have hb : (Value.type "int" != Value.type "tuple") = true := by first | decide +kernel | rfl | decide
        rw [hb]; exact hq
    · have n3 : n = 3 := by
        match ks, vs, hv, h2 with
        | k :: ks, _ :: _, _, _ =>
          have := hn k List.mem_cons_self
          cases k with
          | none => simp [kindN] at this
          | num _ => simp [kindN] at this; omega
          | text _ => simp [kindN] at this; omega
          | tup l =>
            cases l with
            | nil => simp [kindN] at this
            | cons x l => cases x <;> simp [kindN] at this <;> omega
      subst n3
      refine ⟨tuples' true, fun Q E hq => ?_, cmpT true hn2 (fun _ => by decide)⟩
      refine W.kat_kind (s := { s with heap := h' }) (T := .type "str") k1 hfs (fun fv hfv => ?_) rfl ?_
      · obtain ⟨k, z, r, e⟩ := k3 fv hfv
        cases z with
        | text _ _ => exact PySem.W.Looks.now
        | num _ _ => simp [kindN] at e
        | tup _ _ _ _ => simp [kindN] at e
      · have hb : (Value.type "str" != Value.type "tuple") = true := by first | decide +kernel | rfl | decide
        rw [hb]; exact hq
end
end DV

namespace DV
open PySem PySem.Spec PyProof.Rows L2 PySem.SeqAt

/-! ### sorted(..) on data -/
mutual
def D.nt : D → NestedKey
  | .int i => .num i
  | .str x => .text x
  | .tup ds => .tup (D.nts ds)
  | _ => .none
def D.nts : List D → List NestedKey
  | [] => []
  | d :: ds => D.nt d :: D.nts ds
end
mutual
def D.srt : D → Bool
  | .int _ => true
  | .str _ => true
  | .tup ds => D.srts ds
  | _ => false
def D.srts : List D → Bool
  | [] => true
  | d :: ds => D.srt d && D.srts ds
end
structure SrtD (ds : List D) : Prop where
  ok : SrtN (ds.map D.nt)
  all : ∀ d ∈ ds, d.srt = true
section
variable {X : Cx} {pins : List (Addr × Obj)} {σ : L2.St} {F H : Hp} {s : Shared}
mutual
theorem sv_is (I : Inv X pins σ H s) (sb : Sub F H) : ∀ {d : D} {v : V} {u : Value}, d.srt = true → Rp X.K F v d → RelV v u → Sv s.heap d.nt u
  | .int i, _, u, _, .int _, e => by
    obtain ⟨t, rfl⟩ := (show ∃ t, u = Value.int i t from e)
    exact .num i t
  | .str x, _, u, _, .str _, e => by
    obtain ⟨t, rfl⟩ := (show ∃ t, u = Value.str x t from e)
    exact .text x t
  | .tup ds, _, u, h, .tup hs ra, e => by
    cases (show u = Value.ref _ from e)
    simp only [D.srt] at h
    obtain ⟨its, r, ⟨o, h1, h2, n, h3⟩, _⟩ := I.tuple (sb.seqT hs)
    exact .tup h1 h2 h3 (by simpa using svs_is I sb h ra r)
  | .non, _, _, h, _, _ => by simp [D.srt] at h
  | .bl _, _, _, h, _, _ => by simp [D.srt] at h
  | .lst _, _, _, h, _, _ => by simp [D.srt] at h
  | .dic _, _, _, h, _, _ => by simp [D.srt] at h
  | .bag, _, _, h, _, _ => by simp [D.srt] at h
  | .scr, _, _, h, _, _ => by simp [D.srt] at h
theorem svs_is (I : Inv X pins σ H s) (sb : Sub F H) : ∀ {ds : List D} {vs : List V} {us : List Value}, D.srts ds = true → RpA X.K F vs ds → Vals vs us → Svs s.heap (D.nts ds) us
  | [], _, _, _, .nil, .nil => .nil
  | d :: ds, _, _, h, .cons r ra, .cons e er => by
    simp only [D.srts, Bool.and_eq_true] at h
    exact .cons (sv_is I sb h.1 r e) (svs_is I sb h.2 ra er)
end
/-- data, values, the heap's values in one list -/
structure Tri (K : PySem.W.Frag) (F : Hp) (h : Heap) (t : D × V × Value) : Prop where
  rp : Rp K F t.2.1 t.1
  rel : RelV t.2.1 t.2.2
  sv : Sv h t.1.nt t.2.2
theorem tri_of (I : Inv X pins σ H s) (sb : Sub F H) : ∀ {ds : List D} {vs : List V} {us : List Value}, (∀ d ∈ ds, d.srt = true) → RpA X.K F vs ds → Vals vs us →
    ∃ T : List (D × V × Value), T.map (·.1) = ds ∧ T.map (·.2.1) = vs ∧ T.map (·.2.2) = us ∧ ∀ t ∈ T, Tri X.K F s.heap t
  | [], _, _, _, .nil, .nil => ⟨[], rfl, rfl, rfl, fun _ z => nomatch z⟩
  | d :: ds, _, _, h, .cons (v := v) r ra, .cons (b := u) e er => by
    obtain ⟨T, a, b, c, k⟩ := tri_of I sb (fun x hx => h x (List.mem_cons_of_mem _ hx)) ra er
    refine ⟨(d, v, u) :: T, by rw [List.map_cons, a], by rw [List.map_cons, b], by rw [List.map_cons, c], fun t ht => ?_⟩
    rcases List.mem_cons.mp ht with rfl | ht
    · exact ⟨r, e, sv_is I sb (h d List.mem_cons_self) r e⟩
    · exact k t ht
theorem rpa_of {K : PySem.W.Frag} {F : Hp} {h : Heap} : ∀ {T : List (D × V × Value)}, (∀ t ∈ T, Tri K F h t) → RpA K F (T.map (·.2.1)) (T.map (·.1)) ∧ Vals (T.map (·.2.1)) (T.map (·.2.2)) ∧ Svs h ((T.map (·.1)).map D.nt) (T.map (·.2.2))
  | [], _ => ⟨.nil, .nil, .nil⟩
  | t :: T, k => by
    obtain ⟨a, b, c⟩ := rpa_of (T := T) fun x hx => k x (List.mem_cons_of_mem _ hx)
    have z := k t List.mem_cons_self
    exact ⟨.cons z.rp a, .cons z.rel b, .cons z.sv c⟩
/-- the sorted row, as data -/
def SortTo (ds ys : List D) : Prop := ys.Perm ds ∧ ys.Pairwise fun a b => ltN b.nt a.nt = false
theorem tri_sorted {K : PySem.W.Frag} {F : Hp} {h : Heap} {T : List (D × V × Value)} (k : ∀ t ∈ T, Tri K F h t) {out : List Value} (hs : SrtO.Srtd (fun u v => ltN (keyAt h u) (keyAt h v)) out) (hp : out.Perm (T.map (·.2.2))) :
    ∃ (vs : List V) (ys : List D), RpA K F vs ys ∧ Vals vs out ∧ SortTo (T.map (·.1)) ys := by
  obtain ⟨T', p, e⟩ := perm_lift (·.2.2) hp T rfl
  have k' : ∀ t ∈ T', Tri K F h t := fun t ht => k t (p.mem_iff.mp ht)
  obtain ⟨a, b, c⟩ := rpa_of k'
  rw [e] at b
  refine ⟨_, _, a, b, p.map _, ?_⟩
  have hs' : (T'.map (·.2.2)).Pairwise fun u v => ltN (keyAt h v) (keyAt h u) = false := by rw [e]; exact hs
  rw [List.pairwise_map] at hs' ⊢
  refine hs'.imp_of_mem fun {x y} hx hy z => ?_
  rw [keyAt_of (k' x hx).sv, keyAt_of (k' y hy).sv] at z
  exact z
def rSortC (K : PySem.W.Frag) (xs : List V) (H : Hp) (Q : VK) : Prop := ∃ F a d, Sub F H ∧ xs = [.ref a] ∧ Rp K F (.ref a) d ∧
  ((∃ ds, d = .lst ds ∧ SrtD ds ∧ ∀ vs ys p, RpA K F vs ys → SortTo ds ys → H p = none → Q (.ref p) (upd H p (.lst vs))) ∨
   (∃ kvs, d = .dic kvs ∧ SrtD (kvs.map (·.1)) ∧ ∀ vs ys p, RpA K F vs ys → SortTo (kvs.map (·.1)) ys → H p = none → Q (.ref p) (upd H p (.lst vs))) ∨
   ∃ ds, d = .tup ds ∧ ds.length ≤ sizeLine ∧ SrtD ds ∧ ∀ vs ys p, RpA K F vs ys → SortTo ds ys → H p = none → Q (.ref p) (upd H p (.lst vs)))
theorem keys_flat {K : PySem.W.Frag} {F : Hp} : ∀ {ks : List (L2.Key × V)} {kvs : List (D × D)}, kvs.map (·.1) = ks.map (fun p => keyD p.1) → RpA K F (ks.map fun p => kV p.1) (kvs.map (·.1))
  | [], [], _ => .nil
  | [], _ :: _, e => by simp at e
  | _ :: _, [], e => by simp at e
  | (k, v) :: ks, kv :: kvs, e => by
    simp only [List.map_cons, List.cons.injEq] at e
    rw [List.map_cons, List.map_cons, e.1]
    refine .cons ?_ (keys_flat e.2)
    rcases k with i | x
    · exact .int i
    · exact .str x
theorem flat_raw {P : Program} {w : World} {es : List DictEntry} {vs : List (L2.Key × Value)} (p : Pairs (mixKind P w) es vs) : ∀ {ks : List (L2.Key × V)}, KV ks vs → Vals (ks.map fun p => kV p.1) (es.map (·.key)) ∧ Vals (ks.map (·.2)) (es.map (·.val)) := by
  induction p with
  | nil =>
    intro ks r
    unfold KV at r
    cases r
    exact ⟨.nil, .nil⟩
  | @cons e kv es vs h1 h2 _ ih =>
    intro ks r
    unfold KV at r
    cases r with
    | @cons q _ ks _ r1 r2 =>
      obtain ⟨a, b⟩ := ih (show KV ks vs from r2)
      refine ⟨.cons ?_ a, .cons (by dsimp only; rw [h2]; exact r1.2) b⟩
      dsimp only
      rw [r1.1]
      rcases keyIs_shape h1 with ⟨i, t, e1, e2⟩ | ⟨x, t, e1, e2⟩
      · rw [e1, e2]; exact ⟨t, rfl⟩
      · rw [e1, e2]; exact ⟨t, rfl⟩
theorem rows_raw : ∀ {rows : List (NestedKey × Addr × V)} {xs : List (NestedKey × Addr × Value)}, Paired R3 rows xs → Vals (rows.map fun r => V.ref r.2.1) (xs.map fun x => Value.ref x.2.1) ∧ Vals (rows.map (·.2.2)) (xs.map (·.2.2))
  | _, _, .nil => ⟨.nil, .nil⟩
  | _, _, .cons h t => by
    obtain ⟨a, b⟩ := rows_raw t
    exact ⟨.cons (by dsimp only; rw [h.2.1]; rfl) a, .cons h.2.2 b⟩
/-- what walking a dict gives -/
theorem dict_raw (I : Inv X pins σ H s) (sb : Sub F H) {a : Addr} {kvs : List (D × D)} (r : Rp X.K F (.ref a) (.dic kvs)) :
    (a == sysModules) = false ∧ ∃ (es : Array DictEntry) (ep : Nat) (vs ws : List V), s.heap.DictRaw a es ep ∧ es.size ≤ sizeLine ∧ RpA X.K F vs (kvs.map (·.1)) ∧ Vals vs (es.toList.map (·.key)) ∧ RpA X.K F ws (kvs.map (·.2)) ∧ Vals ws (es.toList.map (·.val)) := by
  cases r with
  | @dic a o ks _ h ra e =>
    obtain ⟨z, hd, vs, rel, ob, es, ep, h1, h2, h3, _, h4, _⟩ := dk_rd I.hok (.inr ⟨o, sb.frz h⟩)
    obtain ⟨p, q⟩ := flat_raw h4 rel
    have hl := p.length
    simp only [List.length_map, Array.length_toList] at hl
    exact ⟨hd, es, ep, _, _, ⟨ob, h1, h2, h3⟩, by omega, keys_flat e, p, ra, q⟩
  | @dicT a o rows _ h k0 k1 k2 r1 r2 =>
    obtain ⟨hd, hz, xs, pr, ob, es, ep, h1, h2, h3, h4, _, _⟩ := dkO_of I sb (.inr ⟨o, sb.frz h⟩) k1 k2 r1
    have e := congrArg List.length h4
    rw [List.length_map, Array.length_toList, ← Paired.length pr] at e
    obtain ⟨p, q⟩ := rows_raw pr
    refine ⟨hd, es, ep, _, _, ⟨ob, h1, h2, h3⟩, by omega, r1, ?_, r2, ?_⟩
    · rw [h4, List.map_map]; exact p
    · rw [h4, List.map_map]; exact q
theorem vals_items : ∀ {us acc : List Value}, acc.length = us.length → (∀ (j : Nat) (v : Value), acc[j]? = some v → us[j]? = some v) → acc = us
  | us, acc, h, k => List.ext_getElem? fun j => by
    cases e : acc[j]? with
    | some v => exact (k j v e).symm
    | none =>
      have := List.getElem?_eq_none_iff.mp e
      exact (List.getElem?_eq_none (by omega)).symm
theorem call_sortC (hcalm : X.calm = true) (hu : X.A.units + 65 < cLine) : CallR X (.builtin "sorted") (rSortC X.K) := by
  intro pins s σ H xs us Q I r ⟨F, a, d, sb, ex, rd, q⟩
  subst ex
  obtain ⟨u, eu, rx⟩ := vals1 r
  subst eu
  cases (show u = Value.ref a from rx)
  -- a row of values in a heap that keeps all
  have key : ∀ {T : List (D × V × Value)} {s1 : Shared}, (∀ t ∈ T, Tri X.K F s.heap t) → SrtD (T.map (·.1)) → (∀ b o, s.heap.get? b = some o → s1.heap.get? b = some o) → ∀ (aa : Addr) (A : Around), A.units + 8 < cLine → s1.heap.get? aa = some (seqObj "list" (T.map (·.2.2)).toArray 0) → 2 ≤ (T.map (·.2.2)).length →
      SrtO.SortableO X.prog X.w A s1 aa (T.map (·.2.2)) fun u v => ltN (keyAt s.heap u) (keyAt s.heap v) := fun {T s1} k S kk aa A hA ha h2 => by
    obtain ⟨_, _, sv⟩ := rpa_of k
    have sv' : Svs s1.heap ((T.map (·.1)).map D.nt) (T.map (·.2.2)) := sv.at' fun b o e _ => kk b o e
    refine sortable_n (s := s1) sv' (fun v hv j z => ?_) S.ok h2 (fun o e => ?_) hA
    · obtain ⟨j0, _, z0⟩ := svs_mem sv v hv
      rw [keyAt_of z0]
      exact NestedIs.inj _ _ v (z0.at' fun b o e _ => kk b o e).nested z.nested
    · have e' : some o = some (seqObj "list" (T.map (·.2.2)).toArray 0) := e.symm.trans ha
      cases e'
      intro c
      exact absurd (Value.type.inj c) (by decide)
  rcases q with ⟨ds, rfl, S, q⟩ | ⟨kvs, rfl, S, q⟩ | ⟨ds, rfl, hlds, S, q⟩
  · cases rd with
    | @lst _ vs _ hF ra =>
      obtain ⟨its, rv, pl, hz⟩ := I.list (.of (sb.lst hF))
      obtain ⟨T, rfl, rfl, rfl, k⟩ := tri_of I sb S.all ra rv
      have hz' : (T.map (·.2.2)).length ≤ sizeLine := by simpa using hz
      refine SrtO.sorted_ord (ltN_swo (keyAt s.heap)) pl.isList hz' (fun h2 h₁ aa ha kk => key (s1 := { s with heap := h₁ }) k S (fun b o e => (kk b o e).2) aa _ (by rw [Around.in1_units, Around.in1_units]; omega) ha h2) fun out hs hb => ?_
      obtain ⟨vs', ys, g1, g2, g3⟩ := tri_sorted k hs hb.perm
      obtain ⟨n, hn⟩ := PyProof.Rows.sortedAll_at s.heap (T.map (·.2.2)) out.toArray
      have hlen : vs'.length ≤ sizeLine := by
        rw [g2.length, hb.perm.length_eq]; exact hz'
      exact ⟨.ref (s.heap.objs.size + 1), upd H (s.heap.objs.size + 1) (.lst vs'), I.laid (t' := s.toks) (fun b o e => PyProof.Rows.sortedAll_old e) (Nat.le_succ _) ⟨hlen, out, n, g2, hn⟩, rfl, q vs' ys _ g1 g3 (I.hok.fresh (Nat.le_succ _))⟩
  · obtain ⟨hd, es, ep, vs, ws, hr, hz, ra, rv, _, _⟩ := dict_raw I sb rd
    obtain ⟨T, e1, rfl, e3, k⟩ := tri_of I sb S.all ra rv
    rw [← e1] at S q
    refine Calls.call_function_entry PyProof.Rows.kind_sorted PyProof.Rows.plain_sorted PyProof.Rows.entry_sorted (PyProof.Rows.args_sorted1 _) ?_
    unfold Builtin.«sorted»
    refine wpAny_bind (m := checkCount "sorted" 1 1 _) (wpAny_pure ?_)
    refine wpAny_bind (PySem.W.kdu_collect (A := X.A.in1) (KdlSrc.rawDict (es := es) (ep := ep) hd) (I.ok.hd hcalm) hr hz fun h' tk acc hk hacc => ?_)
    have eacc : acc.toList = T.map (·.2.2) := by
      rw [e3]
      refine vals_items (by rw [Array.length_toList, hacc.1, List.length_map, Array.length_toList]) fun j v e => ?_
      obtain ⟨hi, ev⟩ := hacc.2 j v (by rw [← Array.getElem?_toList]; exact e)
      rw [List.getElem?_map, Array.getElem?_toList, Array.getElem?_eq_getElem hi, ev]
      rfl
    have hz' : (T.map (·.2.2)).length ≤ sizeLine := by
      rw [e3, List.length_map, Array.length_toList]; exact hz
    rw [eacc]
    have I1 : Inv X pins σ H { s with heap := h', toks := tk } := I.kept hk
    refine wpAny_bind (wpAny_newList ?_ hz')
    have hoL : (h'.push (seqObj "list" (T.map (·.2.2)).toArray 0)).get? h'.objs.size = some (seqObj "list" (T.map (·.2.2)).toArray 0) := Heap.get?_push_size _ rfl
    show wpAny _ _ _ _ _ { s with heap := h'.push (seqObj "list" (T.map (·.2.2)).toArray 0), toks := tk }
    refine wpAny_bind (wpAny_holding (wpAny_call_entry PyProof.Rows.slot_list_sort ⟨_, hoL, rfl⟩ PyProof.Rows.entry_list_sort
      (SrtO.list_sort_ord (s := { s with heap := h'.push (seqObj "list" (T.map (·.2.2)).toArray 0), toks := tk }) (ltN_swo (keyAt s.heap)) hoL hz' (fun h2 => ?_) fun out hs hb => ⟨_, rfl, ?_⟩)
      (PyProof.Rows.args_list_sort _)))
    · refine key (s1 := { s with heap := h'.push (seqObj "list" (T.map (·.2.2)).toArray 0), toks := tk }) k S (fun b o e => Heap.get?_push_of_some _ (hk b o e)) _ _ ?_ hoL h2
      simp only [Around.in1_units]
      omega
    · obtain ⟨vs', ys, g1, g2, g3⟩ := tri_sorted k hs hb.perm
      obtain ⟨n, hn⟩ := PyProof.Rows.sortedHeap_at (vs := T.map (·.2.2)) (out := out.toArray) hoL
      have hlen : vs'.length ≤ sizeLine := by
        rw [g2.length, hb.perm.length_eq]; exact hz'
      refine wpAny_pure ⟨_, rfl, .ref h'.objs.size, upd H h'.objs.size (.lst vs'), I1.laid (t' := tk) (fun b u e => ?_) (Nat.le_refl _) ⟨hlen, out, n, g2, hn⟩, rfl, q vs' ys _ g1 g3 (I1.hok.fresh (Nat.le_refl _))⟩
      have hb : b < h'.objs.size := Heap.lt_size e
      rw [PyProof.Rows.sortedHeap_old (Nat.ne_of_lt hb) (by rw [size_push']; exact Nat.lt_succ_of_lt hb)]
      exact Heap.get?_push_of_some _ e
  · cases rd with
    | @tup _ vs _ hs ra =>
      obtain ⟨its, rv, ⟨o, h1, h2, n0, h3⟩, _⟩ := I.tuple (sb.seqT hs)
      obtain ⟨T, rfl, rfl, e3, k⟩ := tri_of I sb S.all ra rv
      refine Calls.call_function_entry PyProof.Rows.kind_sorted PyProof.Rows.plain_sorted PyProof.Rows.entry_sorted (PyProof.Rows.args_sorted1 _) ?_
      unfold Builtin.«sorted»
      refine wpAny_bind (m := checkCount "sorted" 1 1 _) (wpAny_pure ?_)
      have hz' : (T.map (·.2.2)).length ≤ sizeLine := by
        rw [List.length_map] at hlds ⊢
        exact hlds
      have hzz : its.toArray.size ≤ sizeLine := by
        have e4 : its.toArray.size = (T.map (·.2.2)).length := by rw [e3]; simp
        rw [e4]
        exact hz'
      refine wpAny_bind (wpAny_collect_seq (A := X.A.in1) _ (.inr rfl) h1 h2 h3 (hsz := hzz) fun h' hk => ?_)
      have eacc : its.toArray.toList = T.map (·.2.2) := by rw [e3]
      rw [eacc]
      have I1 : Inv X pins σ H { s with heap := h' } := I.kept (t' := s.toks) hk
      refine wpAny_bind (wpAny_newList ?_ hz')
      have hoL : (h'.push (seqObj "list" (T.map (·.2.2)).toArray 0)).get? h'.objs.size = some (seqObj "list" (T.map (·.2.2)).toArray 0) := Heap.get?_push_size _ rfl
      show wpAny _ _ _ _ _ { s with heap := h'.push (seqObj "list" (T.map (·.2.2)).toArray 0) }
      refine wpAny_bind (wpAny_holding (wpAny_call_entry PyProof.Rows.slot_list_sort ⟨_, hoL, rfl⟩ PyProof.Rows.entry_list_sort
        (SrtO.list_sort_ord (s := { s with heap := h'.push (seqObj "list" (T.map (·.2.2)).toArray 0) }) (ltN_swo (keyAt s.heap)) hoL hz' (fun h2 => ?_) fun out hs hb => ⟨_, rfl, ?_⟩)
        (PyProof.Rows.args_list_sort _)))
      · refine key (s1 := { s with heap := h'.push (seqObj "list" (T.map (·.2.2)).toArray 0) }) k S (fun b o e => Heap.get?_push_of_some _ (hk b o e)) _ _ ?_ hoL h2
        simp only [Around.in1_units]
        omega
      · obtain ⟨vs', ys, g1, g2, g3⟩ := tri_sorted k hs hb.perm
        obtain ⟨n, hn⟩ := PyProof.Rows.sortedHeap_at (vs := T.map (·.2.2)) (out := out.toArray) hoL
        have hlen : vs'.length ≤ sizeLine := by
          rw [g2.length, hb.perm.length_eq]; exact hz'
        refine wpAny_pure ⟨_, rfl, .ref h'.objs.size, upd H h'.objs.size (.lst vs'), I1.laid (t' := s.toks) (fun b u e => ?_) (Nat.le_refl _) ⟨hlen, out, n, g2, hn⟩, rfl, q vs' ys _ g1 g3 (I1.hok.fresh (Nat.le_refl _))⟩
        have hb : b < h'.objs.size := Heap.lt_size e
        rw [PyProof.Rows.sortedHeap_old (Nat.ne_of_lt hb) (by rw [size_push']; exact Nat.lt_succ_of_lt hb)]
        exact Heap.get?_push_of_some _ e
def sortedC : DF := fun ds Q => match ds with
  | [.lst xs] => SrtD xs ∧ ∀ ys, SortTo xs ys → Q (.lst ys)
  | [.dic kvs] => SrtD (kvs.map (·.1)) ∧ ∀ ys, SortTo (kvs.map (·.1)) ys → Q (.lst ys)
  | [.tup xs] => xs.length ≤ sizeLine ∧ SrtD xs ∧ ∀ ys, SortTo xs ys → Q (.lst ys)
  | _ => False
theorem cdo_sorted {K : PySem.W.Frag} : CallDo K (rSortC K) sortedC := fun F H xs ds Q0 Q s r q k => by
  rcases r with _ | ⟨r1, _ | ⟨_, _⟩⟩
  · exact q.elim
  · rename_i d
    cases d <;> first | exact q.elim | skip
    · obtain ⟨hz, S, q⟩ := q
      have r0 := r1
      cases r1 with
      | tup h ra => exact ⟨F, _, _, s, rfl, r0, .inr (.inr ⟨_, rfl, hz, S, fun vs ys p g1 g2 hp => k _ _ F _ (Ext.newO s hp) (OwnV.lst hp (s.none hp) upd_same g1) (q ys g2)⟩)⟩
    · obtain ⟨S, q⟩ := q
      cases r1 with
      | lst h ra => exact ⟨F, _, _, s, rfl, .lst h ra, .inl ⟨_, rfl, S, fun vs ys p g1 g2 hp => k _ _ F _ (Ext.newO s hp) (OwnV.lst hp (s.none hp) upd_same g1) (q ys g2)⟩⟩
    · obtain ⟨S, q⟩ := q
      have r0 := r1
      cases r1 with
      | dic _ _ _ => exact ⟨F, _, _, s, rfl, r0, .inr (.inl ⟨_, rfl, S, fun vs ys p g1 g2 hp => k _ _ F _ (Ext.newO s hp) (OwnV.lst hp (s.none hp) upd_same g1) (q ys g2)⟩)⟩
      | dicT _ _ _ _ _ _ => exact ⟨F, _, _, s, rfl, r0, .inr (.inl ⟨_, rfl, S, fun vs ys p g1 g2 hp => k _ _ F _ (Ext.newO s hp) (OwnV.lst hp (s.none hp) upd_same g1) (q ys g2)⟩)⟩
  · exfalso
    unfold sortedC at q
    split at q
    · rename_i h; cases h
    · rename_i h; cases h
    · rename_i h; cases h
    · exact q
end
end DV

namespace DV
open PySem PySem.Spec PyProof.Rows L2
/-! ### loops over enumerate(xs), zip(xs, ys) -/
def enumD : Nat → List D → List D
  | _, [] => []
  | n, d :: ds => .tup [.int (n : Int), d] :: enumD (n + 1) ds
def zipD : List D → List D → List D
  | d :: ds, e :: es => .tup [d, e] :: zipD ds es
  | _, _ => []
theorem enumD_len : ∀ {n : Nat} {ds : List D}, (enumD n ds).length = ds.length
  | _, [] => rfl
  | n, d :: ds => congrArg (· + 1) (enumD_len (n := n + 1) (ds := ds))
theorem enumD_get : ∀ {n i : Nat} {ds : List D} {d : D}, ds[i]? = some d → (enumD n ds)[i]? = some (.tup [.int ((n + i : Nat) : Int), d])
  | _, _, [], _, e => by simp at e
  | n, 0, d :: ds, _, e => by
    simp only [List.getElem?_cons_zero, Option.some.injEq] at e
    subst e; rfl
  | n, i + 1, d :: ds, x, e => by
    simp only [List.getElem?_cons_succ] at e
    have := enumD_get (n := n + 1) e
    simp only [enumD, List.getElem?_cons_succ]
    rw [this, show n + 1 + i = n + (i + 1) by omega]
theorem it_enum {K : PySem.W.Frag} {F : Hp} {a : Addr} {xs : List V} {ds : List D} (h : F a = some (.lst xs)) (ra : RpA K F xs ds) : ItOk K (Ite K a) F (enumD 0 ds) := fun F' H' m s' i => by
  have sq : SqL K H' a xs := .of (s'.lst (m _ _ h))
  rw [enumD_len]
  refine ⟨fun hi => ?_, fun hi => ⟨xs, sq, by rw [ra.length]; exact hi⟩⟩
  have hl : i < xs.length := by rw [ra.length]; exact hi
  refine ⟨⟨xs, _, sq, List.getElem?_eq_getElem hl⟩, fun x H'' hyy => ?_⟩
  obtain ⟨T, y, rfl, hT, rfl, e2⟩ := hyy
  obtain ⟨v, ev, rv⟩ := ra.get (List.getElem?_eq_getElem hi)
  have ex := e2 xs sq
  rw [ev] at ex
  have exy := Option.some.inj ex
  subst exy
  have x1 := Ext.newT (xs := [.int (i : Nat), v]) s' hT
  refine ⟨_, _, x1, enumD_get (List.getElem?_eq_getElem hi), .tup (.of upd_same) (.cons ?_ (.cons (rv.mono (m.trans x1.mono)) .nil))⟩
  rw [Nat.zero_add]
  exact .int _
def iEnumD (t : DA) : DI := fun ρ Q => t ρ fun ds => match ds with
  | [.lst xs] => Q (enumD 0 xs)
  | _ => False
def iZipD (t : DA) : DI := fun ρ Q => t ρ fun ds => match ds with
  | [.lst xs, .lst ys] => Q (zipD xs ys)
  | _ => False
section
variable {X : Cx} {e e2 : Expr} {tr : DA}
theorem pdi_enum {elts : List Expr} {kk : Nat} {tpos p pos : Pos} (hm : X.mg "enumerate" = none) (ha : PDA X [e] tr) (hg : Gl X "enumerate" := by rfl) (hs : starEach [e] X.env = [(false, eval e X.env)] := by rfl) : PDI X (.Tuple elts kk tpos) (.Call (.Name "enumerate" p) [e] [] pos) (iEnumD tr) :=
  PI.impD (pi_enum hg hm ha hs) fun σ H R ⟨ρ, F, Q0, s, en, ht, k⟩ => ⟨ρ, F, _, s, en, ht, fun vs H1 F1 ds x1 r q => by
    unfold iEnumD at ht
    split at q
    · cases r with
      | cons r1 r2 =>
        cases r2
        cases r1 with
        | lst h1 ra => exact ⟨_, _, rfl, .of (x1.sub.lst h1), k _ H1 F1 _ x1 (it_enum h1 ra) q⟩
    · exact q.elim⟩
end
/-! ### the truth of things -/
def truD (x : D) (Q : Bool → Prop) : Prop := match x with
  | .bl b => Q b
  | .non => Q false
  | .int i => Q (decide (i ≠ 0))
  | .lst ds => Q (!ds.isEmpty)
  | .tup ds => Q (!ds.isEmpty)
  | _ => False
def dTru (t : DE) : DT := fun ρ Q => t ρ fun x => truD x Q
end DV

namespace DV
open PySem PySem.Spec PyProof.Rows L2
/-! ### list(zip(xs, ys)) -/
section
variable {prog : Program} {w : World} {A : Around} {E : Value → Shared → Prop} {s : Shared}
structure ZAt (z TI TO i1 i2 l1 l2 S : Addr) (xs ys : Array Value) (i : Nat) (h : Heap) : Prop where
  ti : IsPair h TI (.ref i1) (.ref i2)
  it1 : h.IsListIter i1 l1 i
  it2 : h.IsListIter i2 l2 i
  ls1 : h.IsList l1 xs
  ls2 : h.IsList l2 ys
  zp : (IsZip h z TI TO .none ∧ ∃ a b, IsPair h TO a b) ∨ ∃ T f oT, IsZipHeld h z TI TO T f ∧ h.get? T = some oT ∧ T ≠ z ∧ T ≠ i1 ∧ T ≠ i2 ∧ T ≠ S
structure ZOff (z TI TO i1 i2 l1 l2 S : Addr) : Prop where
  z : z ≠ S
  TI : TI ≠ S
  TO : TO ≠ S
  i1 : i1 ≠ S
  i2 : i2 ≠ S
  l1 : l1 ≠ S
  l2 : l2 ≠ S
variable {z TI TO i1 i2 l1 l2 S : Addr} {xs ys : Array Value}
theorem ZAt.keep {i : Nat} {h h' : Heap} (D : ZOff z TI TO i1 i2 l1 l2 S) (x : ZAt z TI TO i1 i2 l1 l2 S xs ys i h) (hk : ∀ b o, b ≠ S → h.get? b = some o → h'.get? b = some o) : ZAt z TI TO i1 i2 l1 l2 S xs ys i h' :=
  ⟨hk _ _ D.TI x.ti, x.it1.at fun o e => hk _ o D.i1 e, x.it2.at fun o e => hk _ o D.i2 e, x.ls1.at fun o e => hk _ o D.l1 e, x.ls2.at fun o e => hk _ o D.l2 e,
    x.zp.imp (fun ⟨a, b, c, d⟩ => ⟨hk _ _ D.z a, b, c, hk _ _ D.TO d⟩) fun ⟨T, f, oT, a, b, r1, r2, r3, r4⟩ => ⟨T, f, oT, hk _ _ D.z a, hk _ _ r4 b, r1, r2, r3, r4⟩⟩
/-- the next pair: a new object -/
theorem ZAt.next {i : Nat} {Q : Option Value → Shared → Prop} (D : ZipApart z TI TO i1 i2 l1 l2) (hS : S < s.heap.objs.size) (st : ZAt z TI TO i1 i2 l1 l2 S xs ys i s.heap) (h1 : i < xs.size) (h2 : i < ys.size)
    (hQ : ∀ h', ZAt z TI TO i1 i2 l1 l2 S xs ys (i + 1) h' → IsPair h' s.heap.objs.size xs[i] ys[i] → (∀ c o, c ≠ z → c ≠ TO → c ≠ i1 → c ≠ i2 → s.heap.get? c = some o → h'.get? c = some o) → Q (some (.ref s.heap.objs.size)) { s with heap := h' }) :
    wpAny (model prog w) A (pyNext (.ref z)) Q E s := by
  have ex := Array.getElem?_eq_getElem h1
  have ey := Array.getElem?_eq_getElem h2
  have lt : ∀ {c o}, s.heap.get? c = some o → s.heap.objs.size ≠ c := fun e => Nat.ne_of_gt (Heap.lt_size e)
  have n1 : s.heap.objs.size ≠ i1 := let ⟨_, e, _⟩ := st.it1; lt e
  have n2 : s.heap.objs.size ≠ i2 := let ⟨_, e, _⟩ := st.it2; lt e
  rcases st.zp with ⟨hz, a, b, hTO⟩ | ⟨T, f, oT, hz, hT, r1, r2, r3, r4⟩
  · refine wpAny_pyNext_zip_item D hz st.ti hTO st.it1 st.it2 st.ls1 st.ls2 ex ey fun h' a1 a2 a3 a4 a5 a6 hk => ?_
    exact hQ h' ⟨hk _ _ D.TIz D.TITO D.TIi1 D.TIi2 st.ti, a3, a4, st.ls1.at fun o e => hk _ o D.l1z D.l1TO D.l1i1 D.l1i2 e, st.ls2.at fun o e => hk _ o D.l2z D.l2TO D.l2i1 D.l2i2 e,
      .inr ⟨s.heap.objs.size, false, _, a1, a5, lt hz, n1, n2, Nat.ne_of_gt hS⟩⟩ a5 hk
  · refine wpAny_pyNext_zip_item_held D hz hT st.ti st.it1 st.it2 st.ls1 st.ls2 ex ey fun h' a1 a3 a4 a5 a6 hk => ?_
    exact hQ h' ⟨hk _ _ D.TIz D.TIi1 D.TIi2 st.ti, a3, a4, st.ls1.at fun o e => hk _ o D.l1z D.l1i1 D.l1i2 e, st.ls2.at fun o e => hk _ o D.l2z D.l2i1 D.l2i2 e,
      .inr ⟨T, true, oT, a1, hk _ _ r1 r2 r3 hT, r1, r2, r3, r4⟩⟩ a5 fun c o c1 _ c3 c4 e => hk c o c1 c3 c4 e
theorem ZAt.done {i : Nat} {Q : Option Value → Shared → Prop} (hh : A.handled = none) (D : ZipApart z TI TO i1 i2 l1 l2) (st : ZAt z TI TO i1 i2 l1 l2 S xs ys i s.heap) (hend : xs.size ≤ i ∨ ys.size ≤ i)
    (hQ : ∀ h', (∀ c o, c ≠ z → c ≠ TO → c ≠ i1 → c ≠ i2 → s.heap.get? c = some o → h'.get? c = some o) → Q none { s with heap := h' }) : wpAny (model prog w) A (pyNext (.ref z)) Q E s := by
  have hend' : xs[i]? = none ∨ ys[i]? = none := hend.imp (fun h => Array.getElem?_eq_none h) fun h => Array.getElem?_eq_none h
  rcases st.zp with ⟨hz, a, b, hTO⟩ | ⟨T, f, oT, hz, hT, r1, r2, r3, r4⟩
  · exact wpAny_pyNext_zip_end hh D hz st.ti hTO st.it1 st.it2 st.ls1 st.ls2 hend' fun h' hk => hQ h' hk
  · exact wpAny_pyNext_zip_end_held hh D hz hT st.ti st.it1 st.it2 st.ls1 st.ls2 hend' fun h' hk => hQ h' fun c o c1 _ c3 c4 e => hk c o c1 c3 c4 e
end
/-- list(zip(xs, ys)) -/
def dZipL (tr : DA) : DE := fun ρ Q => tr ρ fun ds => match ds with
  | [.lst xs, .lst ys] => Q (.lst (zipD xs ys))
  | _ => False
end DV

namespace DV
open PySem PySem.Spec PyProof.Rows L2
/-! ### walks over dicts whose keys are texts and numbers -/
theorem flat_of {K : PySem.W.Frag} {F : Hp} {v : V} {kvs : List (D × D)} (r : Rp K F v (.dic kvs)) (h : ∀ q ∈ kvs, q.1.flt = true) : ∃ (a : Addr) (o : Obj) (ks : List (L2.Key × V)), v = .ref a ∧ F a = some (.frz o (.dK ks)) ∧ RpA K F (ks.map (·.2)) (kvs.map (·.2)) ∧ kvs.map (·.1) = ks.map (fun p => keyD p.1) := by
  cases r with
  | dic h1 r e => exact ⟨_, _, _, rfl, h1, r, e⟩
  | dicT _ k0 _ k2 _ _ =>
    exfalso
    rcases kvs with _ | ⟨kv, kvs⟩
    · exact k0 rfl
    · have a1 := h kv List.mem_cons_self
      rw [kok_flt (k2 kv List.mem_cons_self)] at a1
      cases a1
def iKeysD (t : DE) : DI := fun ρ Q => t ρ fun d => match d with
  | .dic kvs => (∀ q ∈ kvs, q.1.flt = true) ∧ Q (kvs.map (·.1))
  | _ => False
def iValsD (t : DE) : DI := fun ρ Q => t ρ fun d => match d with
  | .dic kvs => (∀ q ∈ kvs, q.1.flt = true) ∧ Q (kvs.map (·.2))
  | _ => False
def iItemsD (t : DE) : DI := fun ρ Q => t ρ fun d => match d with
  | .dic kvs => (∀ q ∈ kvs, q.1.flt = true) ∧ Q (kvs.map tup2)
  | _ => False
section
variable {X : Cx} {tg e : Expr} {t : DE} {apos cpos : Pos}
/-- dict(d): a copy -/
def dictK : DF := fun ds Q => match ds with
  | [.dic kvs] => (∀ q ∈ kvs, q.1.flt = true) ∧ Q (.dic kvs)
  | _ => False
theorem cdo_copy {K : PySem.W.Frag} : CallDo K (fun xs H Q => ∃ (a : Addr) (kvs : List (L2.Key × V)), xs = [.ref a] ∧ Rd H a (.dK kvs) ∧ ∀ p, H p = none → Q (.ref p) (upd H p (.dK kvs))) dictK := fun F H xs ds Q0 Q s r q k => by
  unfold dictK at q
  split at q
  · cases r with
    | cons r1 r2 =>
      cases r2
      obtain ⟨a, o, ks, rfl, h1, r1, e1⟩ := flat_of r1 q.1
      exact ⟨a, ks, rfl, .inr ⟨o, s.frz h1⟩, fun p hp => k _ _ F (.dic _) (Ext.newO s hp) (.inr ⟨p, rfl, hp, s.none hp, Or.inl ⟨ks, upd_same, r1, e1⟩⟩) q.2⟩
  · exact q.elim
/-! ### x in a tuple -/
def inTD : D2 := fun x y Q => match y with
  | .tup ds => x.lay = true ∧ (D.tup ds).lay = true ∧ Q (.bl (ds.any fun z => D.eqb z x))
  | _ => False
end
end DV

namespace DV
open PySem PySem.Spec PyProof.Rows L2
/-! ### comprehensions with two for parts -/
def Slot.fg : Slot → Slot
  | .own _ => .un
  | s => s
def fgs (ρ : List Slot) : List Slot := ρ.map Slot.fg
def lcA (g : DG) (tt : DT) (te : DE) (ρ : List Slot) : List D → List D → (List D → Prop) → Prop
  | [], acc, Q => Q acc
  | d :: ds, acc, Q => g d ρ fun ρ2 => tt ρ2 fun b => if b = true then te ρ2 fun y => acc.length < sizeLine ∧ lcA g tt te ρ ds (acc ++ [y]) Q else lcA g tt te ρ ds acc Q
def lc2D (g : DG) (tt : DT) (it1 : DI) (g1 : DG) (tt1 : DT) (te : DE) (vs1 : List Nat) (ρ : List Slot) : List D → List D → (D → Prop) → Prop
  | [], acc, Q => Q (.lst acc)
  | d :: ds, acc, Q => g d ρ fun ρ2 => tt ρ2 fun b => if b = true then it1 ρ2 fun ds1 => lcA g1 tt1 te (wipeD (fgs ρ2) vs1) ds1 acc fun acc' => lc2D g tt it1 g1 tt1 te vs1 ρ ds acc' Q else lc2D g tt it1 g1 tt1 te vs1 ρ ds acc Q
def dLc2 (it : DI) (g : DG) (tt : DT) (it1 : DI) (g1 : DG) (tt1 : DT) (te : DE) (vs vs1 : List Nat) : DE := fun ρ Q => it ρ fun ds => lc2D g tt it1 g1 tt1 te vs1 (wipeD ρ vs) ds [] Q
section
variable {X : Cx} {elt tg iter tg1 iter1 : Expr} {ifs ifs1 : List Expr} {scope : Scope} {own : List (Str × Nat)} {vs1 : List Nat} {pos : Pos} {it it1 : DI} {g g1 : TG} {g' g1' : DG} {tt tt1 : DT} {te : DE}
end
end DV

namespace DV
open PySem PySem.Spec PyProof.Rows L2
/-! ### own lists: turned about, emptied, handed from name to name -/
theorem RpA.reverse {K : PySem.W.Frag} {F : Hp} : ∀ {vs : List V} {ds : List D}, RpA K F vs ds → RpA K F vs.reverse ds.reverse
  | _, _, .nil => .nil
  | _, _, .cons h r => by
    rw [List.reverse_cons, List.reverse_cons]
    exact (RpA.reverse r).append (.cons h .nil)
def sRev (i : Nat) : DS := fun N ρ => match ρ[i]? with
  | some (.own (.lst ds)) => N.nx (ρ.set i (.own (.lst ds.reverse)))
  | _ => False
def sClr (i : Nat) : DS := fun N ρ => match ρ[i]? with
  | some (.own (.lst ds)) => N.nx (ρ.set i (.own (.lst [])))
  | _ => False
def sIns (i : Nat) (ti tv : DE) : DS := fun N ρ => match ρ[i]? with
  | some (.own (.lst ds)) => ti ρ fun k => match k with
    | .int j => tv ρ fun d => (0 ≤ j ∧ j < 2 ^ 63 ∧ ds.length < sizeLine) ∧ N.nx (ρ.set i (.own (.lst (ds.take j.toNat ++ [d] ++ ds.drop j.toNat))))
    | _ => False
  | _ => False
def sMove (i j : Nat) : DS := fun N ρ => match ρ[j]? with
  | some (.own d) => i ≠ j ∧ N.nx ((ρ.set j .un).set i (.own d))
  | _ => False
section
variable {X : Cx} {o e e2 : Expr} {t ti tv : DE} {apos cpos pos : Pos}
end
def notBD : D2 := fun x y Q => match x, y with
  | .bl a, .bl b => Q (.bl (!decide (a = b)))
  | _, _ => False
end DV

namespace DV
open PySem PySem.Spec PyProof.Rows L2

/-! ### own classes of exceptions: what the text must say -/
/-! ### what the __init__ of such classes promise -/
section
variable {P : Program} {w : World} {K : PySem.W.Frag} {mg : Str → Option Value} {base : Heap} {a : Addr} {fd : FuncData} {x qual : Str} {params : Arguments} {scope : Scope} {body : List Stmt}
end
end DV

namespace DV
open PySem PySem.Spec PyProof.Rows L2

/-! ### exceptions over data: the class's name, the fields by their names (the last one set first) -/
abbrev Flds := List (Str × D)
/-- what is wished of an exception behind a def; .. within one, at the slots -/
abbrev DX := Str → Flds → Prop
abbrev DXS := List Slot → Str → Flds → Prop
/-- a def that may raise -/
abbrev DSpX := List D → (D → Prop) → DX → Prop
abbrev DSX := DXS → DS
def XAt (K : PySem.W.Frag) (F H : Hp) (cls : Value) (d : Option Addr) (n : Str) (fs : Flds) : Prop :=
  cls = .ref (He.ga K n) ∧ ∃ (dd : Addr) (vs : List (Str × V)), d = some dd ∧ F dd = none ∧ H dd = some (.xd vs) ∧ vs.map (·.1) = fs.map (·.1) ∧ RpA K F (vs.map (·.2)) (fs.map (·.2))
theorem XAt.step {K : PySem.W.Frag} {F H F1 H1 : Hp} {cls : Value} {d : Option Addr} {n : Str} {fs : Flds} (x : XAt K F H cls d n fs) (e : Ext F H F1 H1) : XAt K F1 H1 cls d n fs := by
  obtain ⟨h1, dd, vs, h2, h3, h4, h5, h6⟩ := x
  obtain ⟨k1, k2⟩ := e.keep dd _ h3 h4
  exact ⟨h1, dd, vs, h2, k2, k1, h5, h6.mono e.mono⟩
section
variable {X : Cx} {W : WX} {e a b c : Expr} {es : List Expr} {st : Stmt} {sts as bs : List Stmt} {t ta : DE} {tr : DA} {tA : DT} {u v : DSX} {s0 : DS} {pos p : Pos}
end

/-! ### raise C() and raise C(e) -/
/-- the dict of a made exception -/
theorem Sta.made {K : PySem.W.Frag} {F0 H0 G F H : Hp} {σ : St} {ρ : List Slot} (s : Sta K F0 H0 G F σ H ρ) {dx : Addr} {vs : List (Str × V)} {n : Str} {fs : Flds} (hn : H dx = none) (e : vs.map (·.1) = fs.map (·.1)) (r : RpA K F (vs.map (·.2)) (fs.map (·.2))) :
    Sta K F0 H0 G F σ (upd H dx (.xd vs)) ρ ∧ XAt K F (upd H dx (.xd vs)) (.ref (He.ga K n)) (some dx) n fs :=
  ⟨s.step (Ext.newO s.ext.sub hn), rfl, dx, vs, rfl, s.ext.sub.none hn, upd_same, e, r⟩
section
variable {X : Cx} {W : WX} {e : Expr} {t : DE} {pos p : Pos} {k : Nat} {n g : Str} {fI : Addr} {fd : FuncData}
end
section
variable {X : Cx} {W : WX} {pos p : Pos} {k : Nat} {n : Str} {fI : Addr} {fd : FuncData}
end
end DV

namespace DV
open PySem PySem.Spec PyProof.Rows L2

/-! ### several clauses with names -/
/-- one clause: its class, the slot of its name, its suite -/
structure Cl where
  c : Value
  i : Nat
  ts : Addr → Value → Option Addr → TS
def behindCl (D : Ends) (i : Nat) : Ends := { nx := fun σ H => D.nx (σ.set i none) H, rt := D.rt, bk := fun σ H => D.bk (σ.set i none) H, ct := fun σ H => D.ct (σ.set i none) H }
def wCls (K : PySem.W.Frag) (Wo : WX) (D : Ends) : List Cl → WX
  | [] => Wo
  | q :: l => fun cls d σ H => ∃ b, PySem.W.exmOne K cls q.c = some b ∧
    (b = true → ∀ a, H a = none → q.ts a cls d (behindCl D q.i) (σ.set q.i (some (.ref a))) H) ∧ (b = false → wCls K Wo D l cls d σ H)
inductive ClsOk (X : Cx) : List ExceptHandler → List Cl → Prop
  | nil : ClsOk X [] []
  | cons {x n : Str} {q : Cl} {st : Stmt} {sts : List Stmt} {np pp : Pos} {hs : List ExceptHandler} {l : List Cl} (hi : X.N[q.i]? = some n) (hln : X.env.kindOf n = some .local) (hc : Names X x q.c)
      (su : ∀ (a : Addr) (o : Obj) (cls : Value) (d : Option Addr) (pn : List (Addr × Obj)), Zc cls d o → (∃ vs, o.data = .fields vs) → PSs (X.suite a ((a, o) :: pn)) (st :: sts) (q.ts a cls d)) (r : ClsOk X hs l) :
      ClsOk X (.ExceptHandler (some (.Name x np)) (some n) (st :: sts) pp :: hs) (q :: l)
section
variable {X : Cx} {pins : List (Addr × Obj)} {σ : St} {H : Hp} {s : Shared}
theorem names_eval {x : Str} {np : Pos} {c : Value} {a : Addr} {pn pn' : List (Addr × Obj)} {Q : Value → Shared → Prop} {E : Value → Shared → Prop} (I : Inv (X.suite a pn) pn' σ H s) (hc : Names X x c) (q : Q c s) :
    wpAny (model X.prog X.w) (X.A.mark (some (.ref a))) (eval (.Name x np) X.env) Q E s := by
  obtain ⟨hg, hd, h | ⟨h1, h2, h3⟩⟩ := hc
  · exact ld_glob (X := X.suite a pn) I hg h q hd
  · exact ld_blt (X := X.suite a pn) I hg h1 h2 q h3 hd
/-- the suite has run; its name goes -/
theorem suite_end {a : Addr} {q : Addr × Obj} {D : Ends} {i : Nat} {n : Str} {pp : Pos} {f : Flow} {s6 : Shared} (ok : X.Ok) (hN : X.N.Nodup) (hi : X.N[i]? = some n) (hln : X.env.kindOf n = some .local) (h : SP (X.suite a (q :: (X.pn ++ pins))) [] (behindCl D i) f s6) :
    wpAny (model X.prog X.w) X.A (do bindName X.env n .none; unbindBehindTheSuite X.env n pp) (fun _ s7 => SP X pins D f s7) X.xe s6 := by
  cases f with
  | ret u =>
    obtain ⟨v, z1, z2, S, r, z⟩ := h
    exact gone_ok (S.unsuite ok) hN hi hln fun s7 J => ⟨v, _, _, J, r, z⟩
  | next =>
    obtain ⟨z1, z2, S, z⟩ := h
    exact gone_ok (S.unsuite ok) hN hi hln fun s7 J => ⟨_, _, J, z⟩
  | brk =>
    obtain ⟨z1, z2, S, z⟩ := h
    exact gone_ok (S.unsuite ok) hN hi hln fun s7 J => ⟨_, _, J, z⟩
  | cont =>
    obtain ⟨z1, z2, S, z⟩ := h
    exact gone_ok (S.unsuite ok) hN hi hln fun s7 J => ⟨_, _, J, z⟩
/-- an exception on the ground, the clauses asked one after the other -/
theorem clauses {B : Heap} {a : Addr} {cls : Value} {d : Option Addr} {D : Ends} {Wo : WX} {sI s' : Shared} {hs : List ExceptHandler} {l : List Cl} (ok : X.Ok) (hst : X.stack = X.env :: X.outer) (hf : X.env.frame = some X.env.locals) (hN : X.N.Nodup)
    (tk : Takes X Wo) (J : Inv X pins σ H sI) (nb : ∀ b o, sI.heap.get? b = some o → b ∉ frs X.stack → B.get? b = some o) (up : sI.heap.UpToSlots s'.heap) (na : H a = none) (os : s'.os = sI.os) (ag : AllBare s'.gens)
    (fl : HandSPX.FlyingZ B (X.env :: X.outer) a (Zc cls d) s'.heap) (ch : ClsOk X hs l) (w : wCls X.K Wo D l cls d σ H) : wpAny (model X.prog X.w) X.A (handleBy (.ref a) X.env hs) (SP X pins D) X.xe s' := by
  have J3 : Inv X pins σ H s' := J.landed nb fl.1 up os ag
  have stand : ∀ {h : Heap}, HandSPX.FlyingZ B (X.env :: X.outer) a (Zc cls d) h → ∃ o vs, h.get? a = some o ∧ Zc cls d o ∧ o.data = .fields vs ∧ a ≠ X.env.locals ∧ a ∉ X.fs := fun {h} z => by
    obtain ⟨o, vs, e1, e2, e3⟩ := z.there
    have away : a ∉ frs (X.env :: X.outer) := fun hm => by
      obtain ⟨_, o2, e4, e5⟩ := z.2.2.1.mem hm
      exact e5 vs (by rw [e1] at e4; cases e4; exact e3)
    refine ⟨o, vs, e1, e2, e3, fun z => away ?_, fun hm => away ?_⟩
    · exact List.mem_filterMap.mpr ⟨X.env, List.mem_cons_self, by rw [hf, z]⟩
    · obtain ⟨e, h1, h2⟩ := List.mem_filterMap.mp hm
      exact List.mem_filterMap.mpr ⟨e, List.mem_cons_of_mem _ h1, h2⟩
  induction ch with
  | nil =>
    refine wpAny_handleBy_nil ?_
    have fl2 := fl
    obtain ⟨_, _, _, oe, vs, T, _, _, he, _, hd, h1, _⟩ := fl2
    unfold PySem.passOn
    refine wpAny_bind (wpAny_field he hd h1 ?_)
    have nn : ¬ ((Value.ref T == Value.none) = true) := by simp
    rw [if_neg nn]
    have out : wpAny (model X.prog X.w) X.A (setFlight (.ref a) (some X.env.locals)) (fun _ s4 => wpAny (model X.prog X.w) X.A (throw (.ref a) : Sem Flow) (SP X pins D) X.xe s4) X.xe s' :=
      HandSPX.setFlight_upZ fl fun h4 g4 up4 => wpAny_throw (tk _ _ ⟨a, B, sI, pins, σ, H, cls, d, rfl, J, nb, up.trans up4, .inr (.inr (by rw [hst]; exact g4)), na, os, ag, w⟩)
    rw [← hf] at out
    first
      | exact wpAny_bind (wpAny_pure (wpAny_bind out))
      | exact wpAny_bind out
  | @cons x n q st sts np pp hs l hi hln hc su r ih =>
    obtain ⟨b, hb, yes, no⟩ := w
    obtain ⟨o3, vs3, he3, hz3, hd3, nL, nF⟩ := stand fl
    have S3 := J3.suite he3 hd3 na nL nF
    refine wpAny_handleBy_cons (codeAny_handlers_test ?_) (by intro z; cases z)
    have LT : PySem.W.Looks (model X.prog X.w) s'.heap (typeOf (.ref a)) cls := fun _ _ _ _ k z =>
      wpAny_typeOf_ref (k _ _ he3) (by rw [hz3.1]; exact z)
    refine names_eval S3 hc ((PySem.W.exm_one (M := model X.prog X.w) J3.kIn LT hb).here ?_)
    cases b with
    | false => exact ih (no rfl)
    | true =>
      refine codeAny_handlers_suite_as (HandSPX.lands_againZ fl fun h4 fl4 up4 => ?_)
      obtain ⟨o4, vs4, he4, hz4, hd4, _, _⟩ := stand fl4
      have J4 : Inv X pins σ H { s' with heap := h4 } := J.landed nb fl4.1 (up.trans up4) os ag
      have S4 := J4.suite he4 hd4 na nL nF
      refine store_ok (X := X.suite a ((a, o4) :: (X.pn ++ pins))) (v := .ref a) S4 hN hi (.inl hln) rfl (fun s5 S5 => ?_) (.inr hln)
      refine wpAny_mono ((su a o4 cls d (X.pn ++ pins) hz4 ⟨_, hd4⟩).run [] s5 _ H (behindCl D q.i) S5 (yes rfl a na)) (fun f s6 z => ?_) (fun _ _ z => z.elim)
      have z2 := suite_end (pp := pp) ok hN hi hln z
      cases f <;> exact z2
end
end DV

namespace DV
open PySem PySem.Spec PyProof.Rows L2

/-! ### defs that may raise -/
section
variable {P : Program} {w : World} {K : PySem.W.Frag} {mg : Str → Option Value} {base : Heap}
end
section
variable {X : Cx} {W : WX} {e : Expr} {es : List Expr} {tr : DA} {pos p p2 : Pos} {nm : Str} {k : Nat} {dd : List D} {f : DSpX}
end

/-! ### what stands in an except suite: the exception's fields, its class -/
abbrev DEF := Flds → DE
abbrev DAF := Flds → DA
/-- a the exception, i its name's slot, n its class -/
structure InS (K : PySem.W.Frag) (i : Nat) (a : Addr) (d : Option Addr) (n : Str) (fs : Flds) (σ : St) (F H : Hp) : Prop where
  at_ : σ[i]? = some (some (.ref a))
  x : XAt K F H (.ref (He.ga K n)) d n fs
theorem InS.step {K : PySem.W.Frag} {i : Nat} {a : Addr} {d : Option Addr} {n : Str} {fs : Flds} {σ : St} {F H F1 H1 : Hp} (s : InS K i a d n fs σ F H) (e : Ext F H F1 H1) : InS K i a d n fs σ F1 H1 := ⟨s.at_, s.x.step e⟩
section
variable {X : Cx} {i : Nat} {a : Addr} {d : Option Addr} {n g : Str} {e o : Expr} {es : List Expr} {t : DEF} {tr : DAF} {pos p p2 : Pos} {oe : Obj} {pn : List (Addr × Obj)}
end
/-! ### the suite, the whole try -/
abbrev DSF := Flds → DS
def lfSF (K : PySem.W.Frag) (i : Nat) (a : Addr) (d : Option Addr) (n : Str) (t : DSF) : TS := fun Dn σ H => ∃ F0 H0 G F ρ N fs, Sta K F0 H0 G F σ H ρ ∧ InS K i a d n fs σ F H ∧ t fs N ρ ∧ EndsOk K F0 H0 G N Dn
section
variable {X : Cx} {i : Nat} {a : Addr} {d : Option Addr} {n g : Str} {e o : Expr} {es : List Expr} {t : DEF} {tr : DAF} {pos p p2 : Pos} {oe : Obj} {pn : List (Addr × Obj)}
end
/-- a slot of which nothing is known -/
theorem Sta.setUn {K : PySem.W.Frag} {F0 H0 G F H : Hp} {σ : St} {ρ : List Slot} (s : Sta K F0 H0 G F σ H ρ) (i : Nat) (o : Option V) : Sta K F0 H0 G F (σ.set i o) H (ρ.set i .un) := by
  have key : ∀ {j : Nat} {d : D}, (ρ.set i Slot.un)[j]? = some (.own d) → j ≠ i ∧ ρ[j]? = some (.own d) := fun {j d} h => by
    by_cases hj : j = i
    · subst hj
      have hl : j < ρ.length := by
        have := (List.getElem?_eq_some_iff.mp h).1
        simpa using this
      rw [List.getElem?_set_self hl] at h
      cases h
    · rw [List.getElem?_set_ne (Ne.symm hj)] at h
      exact ⟨hj, h⟩
  refine ⟨s.bse, s.pin, s.ext, ⟨by simp [s.env.len], fun j sl e => ?_, fun a b p d e hab h1 h2 h3 h4 => ?_⟩, fun j p d h1 h2 => ?_⟩
  · by_cases hj : j = i
    · subst hj
      have hl : j < ρ.length := by
        have := (List.getElem?_eq_some_iff.mp e).1
        simpa using this
      rw [List.getElem?_set_self hl] at e
      cases e
      exact ⟨o, by rw [List.getElem?_set_self (by rw [s.env.len]; exact hl)], trivial⟩
    · rw [List.getElem?_set_ne (Ne.symm hj)] at e ⊢
      exact s.env.at_ j sl e
  · obtain ⟨na, z2⟩ := key h2
    obtain ⟨nb, z4⟩ := key h4
    rw [List.getElem?_set_ne (Ne.symm na)] at h1
    rw [List.getElem?_set_ne (Ne.symm nb)] at h3
    exact s.env.sep a b p d e hab h1 z2 h3 z4
  · obtain ⟨nj, z2⟩ := key h2
    rw [List.getElem?_set_ne (Ne.symm nj)] at h1
    exact s.own j p d h1 z2
/-- one clause over data: the class that it catches, others that it lets by, its name's slot, its suite -/
structure Hd where
  y : Str
  no : List Str
  i : Nat
  ts : DSF
def Hd.cl (K : PySem.W.Frag) (h : Hd) : Cl := ⟨.ref (He.ga K h.y), h.i, fun a cls d => fun Dn σ H => cls = .ref (He.ga K h.y) ∧ (h.i < σ.length → lfSF K h.i a d h.y h.ts Dn σ H)⟩
section
variable {X : Cx}
inductive HdsD (X : Cx) : List ExceptHandler → List Hd → Prop
  | nil : HdsD X [] []
  | cons {n : Str} {h : Hd} {st : Stmt} {sts : List Stmt} {np pp : Pos} {hs : List ExceptHandler} {l : List Hd} (hi : X.N[h.i]? = some n) (hln : X.env.kindOf n = some .local) (hc : Names X h.y (.ref (He.ga X.K h.y)))
      (yes : PySem.W.exmOne X.K (.ref (He.ga X.K h.y)) (.ref (He.ga X.K h.y)) = some true) (no : ∀ m ∈ h.no, PySem.W.exmOne X.K (.ref (He.ga X.K m)) (.ref (He.ga X.K h.y)) = some false)
      (su : ∀ (a : Addr) (oe : Obj) (d : Option Addr) (pn : List (Addr × Obj)), Zc (.ref (He.ga X.K h.y)) d oe → (∃ vs, oe.data = .fields vs) → PSs (X.suite a ((a, oe) :: pn)) (st :: sts) (lfSF X.K h.i a d h.y h.ts)) (r : HdsD X hs l) :
      HdsD X (.ExceptHandler (some (.Name h.y np)) (some n) (st :: sts) pp :: hs) (h :: l)
theorem HdsD.cls {hs : List ExceptHandler} {l : List Hd} (h : HdsD X hs l) : ClsOk X hs (l.map (Hd.cl X.K)) := by
  induction h with
  | nil => exact .nil
  | @cons n h st sts np pp hs l hi hln hc yes no su r ih =>
    refine ClsOk.cons (q := h.cl X.K) hi hln hc (fun a o cls d pn hz hf => ?_) ih
    by_cases e : cls = .ref (He.ga X.K h.y)
    · subst e
      exact ⟨fun pins s σ H D I q => (su a o d pn hz hf).run pins s σ H D I (q.2 (by
        have h1 := I.len
        have h2 := (List.getElem?_eq_some_iff.mp hi).1
        have h3 : σ.length = X.N.length := h1
        omega))⟩
    · exact ⟨fun pins s σ H D I q => (e q.1).elim⟩
end

/-! ### what the classes must say, by one Bool -/
def allB (l : List Bool) : Bool := l.all id
section
variable {X : Cx} {W : WX} {e : Expr} {t : DE} {pos p : Pos} {n g : Str}
/-- a def that may raise, where it does not -/
def noX (f : DSpX) : DSp := fun ds Q => f ds Q fun _ _ => False
end
/-! ### the Hook: facts by names, one more Bool, the interpreter's statics -/
end DV

namespace DV
open PySem PySem.Spec PyProof.Rows L2

/-! ### d != e, d == e where they are equal (keys texts or numbers) -/
theorem keyD_inj {a b : L2.Key} (h : keyD a = keyD b) : a = b := by
  rcases a with i | x <;> rcases b with j | y <;> simp only [keyD] at h <;> cases h <;> rfl
theorem frz_keys {K : PySem.W.Frag} {F : Hp} {v : V} {kvs : List (D × D)} (r : Rp K F v (.dic kvs)) (hf : ∀ q ∈ kvs, q.1.flt = true) :
    ∃ a o ks, v = .ref a ∧ F a = some (.frz o (.dK ks)) ∧ RpA K F (ks.map (·.2)) (kvs.map (·.2)) ∧ kvs.map (·.1) = ks.map (fun p => keyD p.1) := by
  cases r with
  | dic h r e => exact ⟨_, _, _, rfl, h, r, e⟩
  | dicT h k0 k1 k2 r1 r2 =>
    exfalso
    rcases kvs with _ | ⟨q, kvs⟩
    · exact k0 rfl
    · have a1 := hf q List.mem_cons_self
      rw [kok_flt (k2 q List.mem_cons_self)] at a1
      cases a1
theorem keys_eq {ks ls : List (L2.Key × V)} (h : ks.map (fun p => keyD p.1) = ls.map (fun p => keyD p.1)) : ks.map (·.1) = ls.map (·.1) := by
  induction ks generalizing ls with
  | nil => cases ls with
    | nil => rfl
    | cons q ls => simp at h
  | cons p ks ih =>
    cases ls with
    | nil => simp at h
    | cons q ls =>
      simp only [List.map_cons, List.cons.injEq] at h ⊢
      exact ⟨keyD_inj h.1, ih h.2⟩
theorem value_at {vb : List (L2.Key × Value)} (nd : (vb.map (·.1)).Nodup) {k : L2.Key} {u : Value} (h : (k, u) ∈ vb) : valueAt vb k = some u := by
  induction vb with
  | nil => cases h
  | cons p vb ih =>
    simp only [List.map_cons, List.nodup_cons] at nd
    rcases List.mem_cons.mp h with e | e
    · subst e
      simp [valueAt]
    · have ne : p.1 ≠ k := fun z => nd.1 (by rw [z]; exact List.mem_map.mpr ⟨_, e, rfl⟩)
      have := ih nd.2 e
      unfold valueAt at this ⊢
      rw [List.find?_cons_of_neg (by simpa using ne)]
      exact this
section
variable {X : Cx} {pins : List (Addr × Obj)} {σ : St} {H : Hp} {s : Shared}
end
end DV

namespace DV
open PySem PySem.Spec PyProof.Rows L2 PySem.SeqAt

/-! ### sorted({.. for .. in ..}), the members tuples of whole numbers -/
section
variable {X : Cx} {pins : List (Addr × Obj)} {σ : L2.St} {H : Hp} {s : Shared}
end
section
variable {X : Cx} {elt tg iter : Expr} {ifs : List Expr} {scope : Scope} {own : List (Str × Nat)} {pos : Pos}
end
end DV

namespace DV
open PySem PySem.Spec PyProof.Rows L2 PySem.SeqAt

/-- a tuple of whole numbers, as data -/
def ikD (k : List Int) : D := .tup (k.map .int)
/-! ### sorted of such a set -/
section
variable {X : Cx}
end
/-! ### as data -/
section
variable {X : Cx} {elt tg iter : Expr} {ifs : List Expr} {scope : Scope} {own : List (Str × Nat)} {pos pos' p : Pos} {it : DI} {g : TG} {g' : DG} {tt : DT} {te : DE}
theorem wipe2 (vs : List Nat) (σ : L2.St) : L2.wipe (L2.wipe σ vs) vs = L2.wipe σ vs := by
  have aux : ∀ us : List Nat, (∀ u ∈ us, u ∈ vs) → L2.wipe (L2.wipe σ us) vs = L2.wipe σ vs := by
    intro us
    induction us with
    | nil => intro _; rfl
    | cons u r ih =>
      intro hu
      show L2.wipe ((L2.wipe σ r).set u none) vs = _
      rw [wipe_at (hu u List.mem_cons_self)]
      exact ih fun v hv => hu v (List.mem_cons_of_mem _ hv)
  exact aux vs fun u hu => hu
end
end DV

namespace DV
open PySem PySem.Spec PyProof.Rows L2

/-! ### sum of whole numbers -/
end DV

namespace DV
open PySem PySem.Spec PyProof.Rows L2 PySem.SeqAt

/-! ### a lambda of one parameter -/
structure LamP (sc scope : Scope) (a : Str) : Prop where
  kind : scope.kind = .function
  co : scope.isCoroutine = false
  gen : scope.isGenerator = false
  cel : ∀ y ∈ scope.names, y.2 ≠ .cell
  own : ∀ y ∈ scope.names, y.2 = .local → y.1 = a
  par : scope.names.lookup a = some .local
  free : ∀ y ∈ scope.names, y.2 = .free → sc.names.lookup y.1 = some .cell ∨ sc.names.lookup y.1 = some .free
section
variable {X : Cx} {pins : List (Addr × Obj)} {σ : L2.St} {F H : Hp} {s : Shared}
theorem LamP.has {scope : Scope} {a : Str} (L : LamP X.env.scope scope a) (ok : X.Ok) : ∀ y ∈ scope.names, y.2 = .free → ∃ c, X.env.cells.lookup y.1 = some c := fun y hy e =>
  (L.free y hy e).elim (fun k => ok.has _ (.inl k)) fun k => ok.has _ (.inr k)
end
end DV

namespace DV
open PySem PySem.Spec PyProof.Rows L2 PySem.SeqAt

/-! ### sorted(xs, key=lambda ..) -/
structure KeysOk (ks : List D) : Prop where
  flat : ∀ k ∈ ks, k.flatOk = true
  al : PySem.W.AllAlike (ks.map D.toP)
  so : PySem.W.Sortable (ks.map D.toP)
  dp : ∀ k ∈ ks, k.toP.depth ≤ 8
def leK (a b : D × D) : Bool := !PySem.W.dataLt b.2.toP a.2.toP
/-- by their keys, stably -/
def sortBy (ds ks : List D) : List D := ((ds.zip ks).mergeSort leK).map (·.1)
def keysL (te : DE) (i : Nat) (ρ : List Slot) : List D → List D → (List D → Prop) → Prop
  | [], acc, Q => Q acc
  | d :: ds, acc, Q => te (ρ.set i (.v d)) fun y => keysL te i ρ ds (acc ++ [y]) Q
def dSortK (t te : DE) (i j : Nat) (T : List (Addr × Str)) : DE := fun ρ Q => t ρ fun x => match x with
  | .lst ds => ρ[j]? = some (.tb T) ∧ keysL te i ρ ds [] fun ks => KeysOk ks ∧ Q (.lst (sortBy ds ks))
  | _ => False
section
variable {X : Cx} {pins : List (Addr × Obj)} {σ : L2.St} {F H : Hp} {s : Shared}
end
section
variable {X : Cx} {e body : Expr} {t te : DE} {params : Arguments} {scope : Scope} {T : List (Addr × Str)} {P c : Addr} {i j k : Nat} {a : Str} {p lpos kp pos : Pos}
end
end DV

namespace DV
open PySem PySem.Spec PyProof.Rows L2

/-! ### {key: value for .. in ..}, keys texts or whole numbers -/
def dcD (g : DG) (tt : DT) (tk tv : DE) (ρ : List Slot) : List D → List (D × D) → (D → Prop) → Prop
  | [], acc, Q => Q (.dic acc)
  | d :: ds, acc, Q => g d ρ fun ρ2 => tt ρ2 fun b => if b = true then tk ρ2 fun k => tv ρ2 fun v => k.flt = true ∧ acc.length < sizeLine ∧ dcD g tt tk tv ρ ds (dputD acc k v) Q else dcD g tt tk tv ρ ds acc Q
def dDc (it : DI) (g : DG) (tt : DT) (tk tv : DE) (vs : List Nat) : DE := fun ρ Q => it ρ fun ds => dcD g tt tk tv (wipeD ρ vs) ds [] Q
section
variable {X : Cx} {kx vx tg iter : Expr} {ifs : List Expr} {scope : Scope} {own : List (Str × Nat)} {pos : Pos} {it : DI} {g : TG} {g' : DG} {tt : DT} {tk tv : DE}
end
/-! ### defs that make lambdas, or call such -/
/-- the last slot holds the tables -/
def fnT (T : List (Addr × Str)) (n m : Nat) (t : DS) : DSp := fun ds Q => ds.length = m ∧ t ⟨fun _ => Q .non, Q, fun _ => False, fun _ => False, roL Q⟩ (ds.map Slot.v ++ List.replicate (n - 1 - m) Slot.un ++ [.tb T])
section
variable {P : Program} {w : World} {K : PySem.W.Frag} {mg : Str → Option Value} {base : Heap}
end
section
variable {X : Cx} {e : Expr} {es : List Expr} {tr : DA} {pos p : Pos} {nm : Str} {k : Nat} {dd : List D} {f : DSp} {T : List (Addr × Str)}
/-- the tables are held in slot j -/
def dCallT (j : Nat) (T : List (Addr × Str)) (f : DSp) (dd : List D) (tr : DA) : DE := fun ρ Q => ρ[j]? = some (.tb T) ∧ tr ρ fun ds => f (ds ++ dd) Q
theorem EnvOk.tab {K : PySem.W.Frag} {F H : Hp} {σ : L2.St} {ρ : List Slot} (en : EnvOk K F H σ ρ) {j : Nat} {T : List (Addr × Str)} (h : ρ[j]? = some (.tb T)) : TabF T F := let ⟨_, _, tb⟩ := en.at_ j _ h; tb
end
end DV

namespace DV
open PySem PySem.Spec PyProof.Rows L2

/-! ### x not in a tuple; tuples of texts of the module -/
section
variable {X : Cx}
def notInTD : D2 := fun x y Q => match y with
  | .tup ds => x.lay = true ∧ (D.tup ds).lay = true ∧ Q (.bl (!ds.any fun z => D.eqb z x))
  | _ => False
end
section
variable {X : Cx} {e : Expr} {es : List Expr} {t : DE} {tr tk : DA} {pos p : Pos} {nm : Str} {k : Nat} {f : DSp} {T : List (Addr × Str)} {kws : List Keyword} {ks : List Str} {kpos : Pos} {kn : Option Str}
/-! ### calls with keywords -/
theorem _root_.L2.PK.impD {X : Cx} {kws : List Keyword} {t t' : TA} (h : PK X kws t) (i : ∀ σ H Q, t' σ H Q → t σ H Q) : PK X kws t' := ⟨fun pos p s σ H Q I q => h.run pos p s σ H Q I (i _ _ _ q)⟩
def dCallTK (j : Nat) (T : List (Addr × Str)) (n m : Nat) (f : DSp) (tr tk : DA) : DE := fun ρ Q => ρ[j]? = some (.tb T) ∧ tr ρ fun ds => tk ρ fun zs => ds.length = n ∧ zs.length = m ∧ f (ds ++ zs) Q
end
/-! ### the Hook: facts by names, one more Bool, the interpreter's statics, tables -/
/-! ### the end -/
end DV

namespace DV
open PySem PySem.Spec PyProof.Rows L2

/-! ### d == e, d != e where the dicts agree (keys texts or numbers, in any order) -/
section
variable {X : Cx} {pins : List (Addr × Obj)} {σ : St} {H : Hp} {s : Shared}
end
end DV

namespace DV
open PySem PySem.Spec PyProof.Rows L2
/-! the readings of the defs, by canon.json -/
def c_greatest : DSp := fnD 2 2
  (sSeq (sPar 0 1 (dCons (dB absD (dCons (dVar 0) dNil)) (dCons (dB absD (dCons (dVar 1) dNil)) dNil))) (sSeq (sWhile (dTest (dOp gtA (dVar 1) (dC (.int 0)))) (sPar 0 1 (dCons (dVar 1) (dCons (dOp modD (dVar 0) (dVar 1)) dNil)))) (sRet (dVar 0))))
def c_lowest : DSp := fnD 3 2
  (sSeq (sIf (dTest (dOp eqD (dVar 1) (dC (.int 0)))) sNever sNext) (sSeq (sSet 2 (dCall c_greatest [] (dCons (dVar 0) (dCons (dVar 1) dNil)))) (sSeq (sIf (dTest (dOp ltA (dVar 1) (dC (.int 0)))) (sSet 2 (dUn negD (dVar 2))) sNext) (sRet (dTup (dCons (dOp fdivD (dVar 0) (dVar 2)) (dCons (dOp fdivD (dVar 1) (dVar 2)) dNil)))))))
def c_plus : DSp := fnD 2 2
  (sRet (dCall c_lowest [] (dCons (dOp addD (dOp mulD (dOp ixD (dVar 0) (dC (.int 0))) (dOp ixD (dVar 1) (dC (.int 1)))) (dOp mulD (dOp ixD (dVar 1) (dC (.int 0))) (dOp ixD (dVar 0) (dC (.int 1))))) (dCons (dOp mulD (dOp ixD (dVar 0) (dC (.int 1))) (dOp ixD (dVar 1) (dC (.int 1)))) dNil))))
def c_below : DSp := fnD 2 2
  (sRet (dOp ltA (dOp mulD (dOp ixD (dVar 0) (dC (.int 0))) (dOp ixD (dVar 1) (dC (.int 1)))) (dOp mulD (dOp ixD (dVar 1) (dC (.int 0))) (dOp ixD (dVar 0) (dC (.int 1))))))
def c_law_of : DSp := fnD 2 2
  (sRet (dOp ixD (dVar 1) (dCall pullD [] (dCons (dVar 0) (dCons (dB lenD (dCons (dVar 1) dNil)) dNil)))))
def t_law_like (self : DSp) : DS :=
  (sSeq (sIf (dTest (dIsi "dict" (dVar 1))) sNever sNext) (sSeq (sIf (dOr (dTest (dOp neD (dIsi "tuple" (dVar 1)) (dIsi "tuple" (dVar 0)))) (dTest (dOp neD (dIsi "list" (dVar 1)) (dIsi "list" (dVar 0))))) (sRet (dC (.bl false))) sNext) (sSeq (sIf (dNot (dTest (dIsi2 "tuple" "list" (dVar 1)))) (sRet (dAndV (dOp eqD (dIsi "bool" (dVar 0)) (dIsi "bool" (dVar 1))) (dOp eqD (dVar 0) (dVar 1)))) sNext) (sRet (dAndV (dOp eqD (dB lenD (dCons (dVar 0) dNil)) (dB lenD (dCons (dVar 1) dNil))) (dB allD (dCons (dLc (iRng1D (dCons (dB lenD (dCons (dVar 1) dNil)) dNil)) (gN 2) dYes (dCall self [] (dCons (dOp ixD (dVar 0) (dVar 2)) (dCons (dOp ixD (dVar 1) (dVar 2)) dNil))) [2]) dNil)))))))
def c_law_like : Nat → DSp
  | 0 => fun _ _ => False
  | n + 1 => fnD 3 2 (t_law_like (c_law_like n))
def c_law_low : DSp := fnD 3 2
  (sSeq (sSet 2 (dCall c_greatest [] (dCons (dVar 0) (dCons (dVar 1) dNil)))) (sSeq (sIf (dTest (dOp ltA (dVar 1) (dC (.int 0)))) (sSet 2 (dOp subD (dC (.int 0)) (dVar 2))) sNext) (sRet (dTup (dCons (dOp fdivD (dVar 0) (dVar 2)) (dCons (dOp fdivD (dVar 1) (dVar 2)) dNil))))))
def c_nearest : DSp := fnD 1 1
  (sRet (dOp fdivD (dOp addD (dOp mulD (dC (.int 2)) (dOp ixD (dVar 0) (dC (.int 0)))) (dOp ixD (dVar 0) (dC (.int 1)))) (dOp mulD (dC (.int 2)) (dOp ixD (dVar 0) (dC (.int 1))))))
def c_square_of : DSp := fnD 1 1
  (sRet (dTup (dCons (dCall c_nearest [] (dCons (dOp ixD (dVar 0) (dC (.int 0))) dNil)) (dCons (dCall c_nearest [] (dCons (dOp ixD (dVar 0) (dC (.int 1))) dNil)) dNil))))
def c_cross : DSp := fnD 3 3
  (sRet (dOp subD (dOp mulD (dOp subD (dOp ixD (dVar 1) (dC (.int 0))) (dOp ixD (dVar 0) (dC (.int 0)))) (dOp subD (dOp ixD (dVar 2) (dC (.int 1))) (dOp ixD (dVar 0) (dC (.int 1))))) (dOp mulD (dOp subD (dOp ixD (dVar 1) (dC (.int 1))) (dOp ixD (dVar 0) (dC (.int 1)))) (dOp subD (dOp ixD (dVar 2) (dC (.int 0))) (dOp ixD (dVar 0) (dC (.int 0)))))))
def c_law_clipped : DSp := fnD 1 1
  (sRet (dB max2A (dCons (dUn negD (dC (.int 40))) (dCons (dB min2A (dCons (dC (.int 40)) (dCons (dVar 0) dNil))) dNil))))
def c_law_spot : DSp := fnD 4 3
  (sSeq (sSet 3 (dCall c_law_clipped [] (dCons (dOp subD (dOp addD (dOp ixD (dVar 1) (dC (.int 0))) (dCall pullD [] (dCons (dVar 0) (dCons (dOp addD (dOp mulD (dC (.int 2)) (dVar 2)) (dC (.int 1))) dNil)))) (dVar 2)) dNil))) (sRet (dTup (dCons (dVar 3) (dCons (dCall c_law_clipped [] (dCons (dOp subD (dOp addD (dOp ixD (dVar 1) (dC (.int 1))) (dCall pullD [] (dCons (dVar 0) (dCons (dOp addD (dOp mulD (dC (.int 2)) (dVar 2)) (dC (.int 1))) dNil)))) (dVar 2)) dNil)) dNil)))))
def c_law_base : DSp := fnD 2 1
  (sSeq (sSet 1 (dTup (dCons (dOp subD (dCall pullD [] (dCons (dVar 0) (dCons (dC (.int 81)) dNil))) (dC (.int 40))) (dCons (dOp subD (dCall pullD [] (dCons (dVar 0) (dCons (dC (.int 81)) dNil))) (dC (.int 40))) dNil)))) (sRet (dCall c_law_of [] (dCons (dVar 0) (dCons (dLst (dCons (dTup (dCons (dC (.int 0)) (dCons (dC (.int 0)) dNil))) (dCons (dTup (dCons (dC (.int 0)) (dCons (dC (.int 0)) dNil))) (dCons (dTup (dCons (dC (.int 0)) (dCons (dC (.int 0)) dNil))) (dCons (dTup (dCons (dUn negD (dC (.int 38))) (dCons (dUn negD (dC (.int 38))) dNil))) (dCons (dTup (dCons (dC (.int 38)) (dCons (dC (.int 38)) dNil))) (dCons (dTup (dCons (dC (.int 37)) (dCons (dUn negD (dC (.int 39))) dNil))) (dCons (dVar 1) dNil)))))))) dNil)))))
def c_common : DSp := fnD 4 2
  (sSeq (sSet 2 (dB max2A (dCons (dB min2A (dCons (dSl (dVar 0) dNo (dPart (dC (.int 2)))) (dCons (dSl (dVar 0) (dPart (dC (.int 2))) dNo) dNil))) (dCons (dB min2A (dCons (dSl (dVar 1) dNo (dPart (dC (.int 2)))) (dCons (dSl (dVar 1) (dPart (dC (.int 2))) dNo) dNil))) dNil)))) (sSeq (sSet 3 (dB min2A (dCons (dB max2A (dCons (dSl (dVar 0) dNo (dPart (dC (.int 2)))) (dCons (dSl (dVar 0) (dPart (dC (.int 2))) dNo) dNil))) (dCons (dB max2A (dCons (dSl (dVar 1) dNo (dPart (dC (.int 2)))) (dCons (dSl (dVar 1) (dPart (dC (.int 2))) dNo) dNil))) dNil)))) (sSeq (sIf (dTest (dOp gtA (dVar 2) (dVar 3))) (sRet (dC .non)) sNext) (sSeq (sIf (dTest (dOp eqD (dVar 2) (dVar 3))) (sRet (dTup (dCons (dC (.str "at")) (dCons (dTup (dCons (dTup (dCons (dOp ixD (dVar 2) (dC (.int 0))) (dCons (dC (.int 1)) dNil))) (dCons (dTup (dCons (dOp ixD (dVar 2) (dC (.int 1))) (dCons (dC (.int 1)) dNil))) dNil))) dNil)))) sNext) (sRet (dTup (dCons (dC (.str "along")) (dCons (dVar 2) (dCons (dVar 3) dNil)))))))))
def c_meet : DSp := fnD 12 2
  (sSeq (sPar 6 7 (dCons (dOp subD (dOp ixD (dVar 0) (dC (.int 2))) (dOp ixD (dVar 0) (dC (.int 0)))) (dCons (dOp subD (dOp ixD (dVar 0) (dC (.int 3))) (dOp ixD (dVar 0) (dC (.int 1)))) dNil))) (sSeq (sPar 8 9 (dCons (dOp subD (dOp ixD (dVar 1) (dC (.int 2))) (dOp ixD (dVar 1) (dC (.int 0)))) (dCons (dOp subD (dOp ixD (dVar 1) (dC (.int 3))) (dOp ixD (dVar 1) (dC (.int 1)))) dNil))) (sSeq (sPar 10 11 (dCons (dOp subD (dOp ixD (dVar 1) (dC (.int 0))) (dOp ixD (dVar 0) (dC (.int 0)))) (dCons (dOp subD (dOp ixD (dVar 1) (dC (.int 1))) (dOp ixD (dVar 0) (dC (.int 1)))) dNil))) (sSeq (sSet 2 (dOp subD (dOp mulD (dVar 6) (dVar 9)) (dOp mulD (dVar 7) (dVar 8)))) (sSeq (sIf (dTest (dOp eqD (dVar 2) (dC (.int 0)))) (sRet (dIf (dTest (dOp eqD (dOp subD (dOp mulD (dVar 10) (dVar 7)) (dOp mulD (dVar 11) (dVar 6))) (dC (.int 0)))) (dCall c_common [] (dCons (dVar 0) (dCons (dVar 1) dNil))) (dC .non))) sNext) (sSeq (sSet 3 (dCall c_lowest [] (dCons (dOp subD (dOp mulD (dVar 10) (dVar 9)) (dOp mulD (dVar 11) (dVar 8))) (dCons (dVar 2) dNil)))) (sSeq (sSet 4 (dCall c_lowest [] (dCons (dOp subD (dOp mulD (dVar 10) (dVar 7)) (dOp mulD (dVar 11) (dVar 6))) (dCons (dVar 2) dNil)))) (sSeq (sIf (dOr (dTest (dCall c_below [] (dCons (dVar 3) (dCons (dTup (dCons (dC (.int 0)) (dCons (dC (.int 1)) dNil))) dNil)))) (dOr (dTest (dCall c_below [] (dCons (dTup (dCons (dC (.int 1)) (dCons (dC (.int 1)) dNil))) (dCons (dVar 3) dNil)))) (dOr (dTest (dCall c_below [] (dCons (dVar 4) (dCons (dTup (dCons (dC (.int 0)) (dCons (dC (.int 1)) dNil))) dNil)))) (dTest (dCall c_below [] (dCons (dTup (dCons (dC (.int 1)) (dCons (dC (.int 1)) dNil))) (dCons (dVar 4) dNil))))))) (sRet (dC .non)) sNext) (sSeq (sSet 5 (dCall c_plus [] (dCons (dTup (dCons (dOp ixD (dVar 0) (dC (.int 0))) (dCons (dC (.int 1)) dNil))) (dCons (dCall c_lowest [] (dCons (dOp mulD (dOp ixD (dVar 3) (dC (.int 0))) (dVar 6)) (dCons (dOp ixD (dVar 3) (dC (.int 1))) dNil))) dNil)))) (sRet (dTup (dCons (dC (.str "at")) (dCons (dTup (dCons (dVar 5) (dCons (dCall c_plus [] (dCons (dTup (dCons (dOp ixD (dVar 0) (dC (.int 1))) (dCons (dC (.int 1)) dNil))) (dCons (dCall c_lowest [] (dCons (dOp mulD (dOp ixD (dVar 3) (dC (.int 0))) (dVar 7)) (dCons (dOp ixD (dVar 3) (dC (.int 1))) dNil))) dNil))) dNil))) dNil)))))))))))))
def c_law_stroke : DSp := fnD 5 3
  (sSeq (sPar 3 4 (dCons (dCall c_law_spot [] (dCons (dVar 0) (dCons (dVar 1) (dCons (dVar 2) dNil)))) (dCons (dCall c_law_spot [] (dCons (dVar 0) (dCons (dVar 1) (dCons (dVar 2) dNil)))) dNil))) (sSeq (sIf (dTest (dOp eqD (dVar 3) (dVar 4))) (sSet 4 (dTup (dCons (dOp addD (dOp ixD (dVar 4) (dC (.int 0))) (dIf (dTest (dOp ltA (dOp ixD (dVar 4) (dC (.int 0))) (dC (.int 40)))) (dC (.int 1)) (dUn negD (dC (.int 1))))) (dCons (dOp ixD (dVar 4) (dC (.int 1))) dNil)))) sNext) (sRet (dOp addD (dVar 3) (dVar 4)))))
def c_law_beside : DSp := fnD 9 4
  (sSeq (sSet 4 (dCall c_law_stroke [] (dCons (dVar 0) (dCons (dVar 1) (dCons (dVar 2) dNil))))) (sSeq (sSet 5 (dCall pullD [] (dCons (dVar 0) (dCons (dC (.int 7)) dNil)))) (sSeq (sIf (dOr (dTest (dOp eqD (dVar 3) (dLst dNil))) (dTest (dOp gtA (dVar 5) (dC (.int 2))))) (sRet (dVar 4)) sNext) (sSeq (sSet 6 (dCall c_law_of [] (dCons (dVar 0) (dCons (dVar 3) dNil)))) (sSeq (sIf (dAnd (dTest (dOp eqD (dVar 5) (dC (.int 0)))) (dTest (dOp neD (dSl (dVar 6) (dPart (dC (.int 2))) dNo) (dSl (dVar 4) (dPart (dC (.int 2))) dNo)))) (sRet (dOp addD (dSl (dVar 6) (dPart (dC (.int 2))) dNo) (dSl (dVar 4) (dPart (dC (.int 2))) dNo))) sNext) (sSeq (sPar 7 8 (dCons (dOp subD (dOp mulD (dC (.int 2)) (dOp ixD (dVar 6) (dC (.int 2)))) (dOp ixD (dVar 6) (dC (.int 0)))) (dCons (dOp subD (dOp mulD (dC (.int 2)) (dOp ixD (dVar 6) (dC (.int 3)))) (dOp ixD (dVar 6) (dC (.int 1)))) dNil))) (sSeq (sIf (dAnd (dTest (dOp eqD (dVar 5) (dC (.int 1)))) (dTest (dOp ltA (dB max2A (dCons (dB absD (dCons (dVar 7) dNil)) (dCons (dB absD (dCons (dVar 8) dNil)) dNil))) (dC (.int 41))))) (sRet (dOp addD (dSl (dVar 6) dNo (dPart (dC (.int 2)))) (dTup (dCons (dVar 7) (dCons (dVar 8) dNil))))) sNext) (sRet (dIf (dTest (dOp eqD (dVar 5) (dC (.int 2)))) (dOp addD (dSl (dVar 6) (dPart (dC (.int 2))) dNo) (dSl (dVar 6) dNo (dPart (dC (.int 2))))) (dVar 4))))))))))
def c_law_meet : DSp := fnD 9 2
  (sSeq (sSet 2 (dLst (dCons (dSl (dVar 0) dNo (dPart (dC (.int 2)))) (dCons (dSl (dVar 0) (dPart (dC (.int 2))) dNo) (dCons (dSl (dVar 1) dNo (dPart (dC (.int 2)))) (dCons (dSl (dVar 1) (dPart (dC (.int 2))) dNo) dNil)))))) (sSeq (sSet 3 (dLst (dCons (dCall c_cross [] (dCons (dOp ixD (dVar 2) (dC (.int 0))) (dCons (dOp ixD (dVar 2) (dC (.int 1))) (dCons (dOp ixD (dVar 2) (dC (.int 2))) dNil)))) (dCons (dCall c_cross [] (dCons (dOp ixD (dVar 2) (dC (.int 0))) (dCons (dOp ixD (dVar 2) (dC (.int 1))) (dCons (dOp ixD (dVar 2) (dC (.int 3))) dNil)))) dNil)))) (sSeq (sSet 4 (dLst (dCons (dCall c_cross [] (dCons (dOp ixD (dVar 2) (dC (.int 2))) (dCons (dOp ixD (dVar 2) (dC (.int 3))) (dCons (dOp ixD (dVar 2) (dC (.int 0))) dNil)))) (dCons (dCall c_cross [] (dCons (dOp ixD (dVar 2) (dC (.int 2))) (dCons (dOp ixD (dVar 2) (dC (.int 3))) (dCons (dOp ixD (dVar 2) (dC (.int 1))) dNil)))) dNil)))) (sSeq (sIf (dTest (dOp eqD (dVar 3) (dLst (dCons (dC (.int 0)) (dCons (dC (.int 0)) dNil))))) (sSeq (sSet 7 (dB max2A (dCons (dB min2A (dCons (dOp ixD (dVar 2) (dC (.int 0))) (dCons (dOp ixD (dVar 2) (dC (.int 1))) dNil))) (dCons (dB min2A (dCons (dOp ixD (dVar 2) (dC (.int 2))) (dCons (dOp ixD (dVar 2) (dC (.int 3))) dNil))) dNil)))) (sSeq (sSet 8 (dB min2A (dCons (dB max2A (dCons (dOp ixD (dVar 2) (dC (.int 0))) (dCons (dOp ixD (dVar 2) (dC (.int 1))) dNil))) (dCons (dB max2A (dCons (dOp ixD (dVar 2) (dC (.int 2))) (dCons (dOp ixD (dVar 2) (dC (.int 3))) dNil))) dNil)))) (sSeq (sIf (dTest (dOp ltA (dVar 7) (dVar 8))) (sRet (dTup (dCons (dC (.str "along")) (dCons (dVar 7) (dCons (dVar 8) dNil))))) sNext) (sRet (dIf (dTest (dOp eqD (dVar 7) (dVar 8))) (dTup (dCons (dC (.str "at")) (dCons (dTup (dCons (dTup (dCons (dOp ixD (dVar 7) (dC (.int 0))) (dCons (dC (.int 1)) dNil))) (dCons (dTup (dCons (dOp ixD (dVar 7) (dC (.int 1))) (dCons (dC (.int 1)) dNil))) dNil))) dNil))) (dC .non)))))) sNext) (sSeq (sIf (dOr (dTest (dOp gtA (dOp mulD (dOp ixD (dVar 3) (dC (.int 0))) (dOp ixD (dVar 3) (dC (.int 1)))) (dC (.int 0)))) (dTest (dOp gtA (dOp mulD (dOp ixD (dVar 4) (dC (.int 0))) (dOp ixD (dVar 4) (dC (.int 1)))) (dC (.int 0))))) (sRet (dC .non)) sNext) (sSeq (sSet 5 (dOp subD (dOp ixD (dVar 3) (dC (.int 0))) (dOp ixD (dVar 3) (dC (.int 1))))) (sSeq (sSet 6 (dCall c_law_low [] (dCons (dOp addD (dOp mulD (dOp ixD (dVar 1) (dC (.int 0))) (dVar 5)) (dOp mulD (dOp subD (dOp ixD (dVar 1) (dC (.int 2))) (dOp ixD (dVar 1) (dC (.int 0)))) (dOp ixD (dVar 3) (dC (.int 0))))) (dCons (dVar 5) dNil)))) (sRet (dTup (dCons (dC (.str "at")) (dCons (dTup (dCons (dVar 6) (dCons (dCall c_law_low [] (dCons (dOp addD (dOp mulD (dOp ixD (dVar 1) (dC (.int 1))) (dVar 5)) (dOp mulD (dOp subD (dOp ixD (dVar 1) (dC (.int 3))) (dOp ixD (dVar 1) (dC (.int 1)))) (dOp ixD (dVar 3) (dC (.int 0))))) (dCons (dVar 5) dNil))) dNil))) dNil)))))))))))
def c_span : DSp := fnD 5 3
  (sSeq (sIf (dTest (dOp eqD (dVar 1) (dC (.int 0)))) (sRet (dIf (dTest (dOp eqD (dVar 2) (dVar 0))) (dTup (dCons (dTup (dCons (dC (.int 0)) (dCons (dC (.int 1)) dNil))) (dCons (dC (.bl true)) (dCons (dTup (dCons (dC (.int 1)) (dCons (dC (.int 1)) dNil))) (dCons (dC (.bl true)) dNil))))) (dC .non))) sNext) (sSeq (sSet 3 (dCall c_lowest [] (dCons (dOp subD (dOp mulD (dC (.int 2)) (dOp subD (dVar 2) (dVar 0))) (dC (.int 1))) (dCons (dOp mulD (dC (.int 2)) (dVar 1)) dNil)))) (sSeq (sSet 4 (dCall c_lowest [] (dCons (dOp addD (dOp mulD (dC (.int 2)) (dOp subD (dVar 2) (dVar 0))) (dC (.int 1))) (dCons (dOp mulD (dC (.int 2)) (dVar 1)) dNil)))) (sRet (dIf (dTest (dOp gtA (dVar 1) (dC (.int 0)))) (dTup (dCons (dVar 3) (dCons (dC (.bl true)) (dCons (dVar 4) (dCons (dC (.bl false)) dNil))))) (dTup (dCons (dVar 4) (dCons (dC (.bl false)) (dCons (dVar 3) (dCons (dC (.bl true)) dNil))))))))))
def c_law_clip : DSp := fnD 4 4
  (sSeq (sIf (dTest (dOp eqD (dVar 1) (dC (.int 0)))) (sRet (dIf (dTest (dChain leA leA (dVar 2) (dVar 0) (dVar 3))) (dLst (dCons (dTup (dCons (dC (.int 0)) (dCons (dC (.int 1)) dNil))) (dCons (dTup (dCons (dC (.int 1)) (dCons (dC (.int 1)) dNil))) dNil))) (dLst dNil))) sNext) (sSeq (sIf (dTest (dOp ltA (dVar 1) (dC (.int 0)))) (sRet (dLst (dCons (dTup (dCons (dOp subD (dVar 0) (dVar 3)) (dCons (dOp subD (dC (.int 0)) (dVar 1)) dNil))) (dCons (dTup (dCons (dOp subD (dVar 0) (dVar 2)) (dCons (dOp subD (dC (.int 0)) (dVar 1)) dNil))) dNil)))) sNext) (sRet (dLst (dCons (dTup (dCons (dOp subD (dVar 2) (dVar 0)) (dCons (dVar 1) dNil))) (dCons (dTup (dCons (dOp subD (dVar 3) (dVar 0)) (dCons (dVar 1) dNil))) dNil))))))
def c_law_later : DSp := fnD 2 2
  (sRet (dIf (dTest (dOp gtA (dOp mulD (dOp ixD (dVar 0) (dC (.int 0))) (dOp ixD (dVar 1) (dC (.int 1)))) (dOp mulD (dOp ixD (dVar 1) (dC (.int 0))) (dOp ixD (dVar 0) (dC (.int 1)))))) (dVar 0) (dVar 1)))
def c_law_sooner : DSp := fnD 2 2
  (sRet (dIf (dTest (dOp ltA (dOp mulD (dOp ixD (dVar 0) (dC (.int 0))) (dOp ixD (dVar 1) (dC (.int 1)))) (dOp mulD (dOp ixD (dVar 1) (dC (.int 0))) (dOp ixD (dVar 0) (dC (.int 1)))))) (dVar 0) (dVar 1)))
def c_law_inside : DSp := fnD 8 3
  (sSeq (sAsg (dVar 1) (gT 2 (gsCons (gN 6) (gsCons (gN 7) gsNil)))) (sSeq (sSet 3 (dOp addD (dOp mulD (dOp mulD (dC (.int 2)) (dOp ixD (dVar 0) (dC (.int 0)))) (dVar 7)) (dOp mulD (dOp mulD (dC (.int 2)) (dOp subD (dOp ixD (dVar 0) (dC (.int 2))) (dOp ixD (dVar 0) (dC (.int 0))))) (dVar 6)))) (sSeq (sSet 4 (dOp addD (dOp mulD (dOp mulD (dC (.int 2)) (dOp ixD (dVar 0) (dC (.int 1)))) (dVar 7)) (dOp mulD (dOp mulD (dC (.int 2)) (dOp subD (dOp ixD (dVar 0) (dC (.int 3))) (dOp ixD (dVar 0) (dC (.int 1))))) (dVar 6)))) (sSeq (sSet 5 (dChain leA ltA (dOp mulD (dOp subD (dOp mulD (dC (.int 2)) (dOp ixD (dVar 2) (dC (.int 0)))) (dC (.int 1))) (dVar 7)) (dVar 3) (dOp mulD (dOp addD (dOp mulD (dC (.int 2)) (dOp ixD (dVar 2) (dC (.int 0)))) (dC (.int 1))) (dVar 7)))) (sRet (dAndV (dVar 5) (dChain leA ltA (dOp mulD (dOp subD (dOp mulD (dC (.int 2)) (dOp ixD (dVar 2) (dC (.int 1)))) (dC (.int 1))) (dVar 7)) (dVar 4) (dOp mulD (dOp addD (dOp mulD (dC (.int 2)) (dOp ixD (dVar 2) (dC (.int 1)))) (dC (.int 1))) (dVar 7)))))))))
def c_law_goes : DSp := fnD 8 2
  (sSeq (sSet 2 (dCall c_law_clip [] (dCons (dOp mulD (dC (.int 2)) (dOp ixD (dVar 0) (dC (.int 0)))) (dCons (dOp mulD (dC (.int 2)) (dOp subD (dOp ixD (dVar 0) (dC (.int 2))) (dOp ixD (dVar 0) (dC (.int 0))))) (dCons (dOp subD (dOp mulD (dC (.int 2)) (dOp ixD (dVar 1) (dC (.int 0)))) (dC (.int 1))) (dCons (dOp addD (dOp mulD (dC (.int 2)) (dOp ixD (dVar 1) (dC (.int 0)))) (dC (.int 1))) dNil)))))) (sSeq (sSet 3 (dCall c_law_clip [] (dCons (dOp mulD (dC (.int 2)) (dOp ixD (dVar 0) (dC (.int 1)))) (dCons (dOp mulD (dC (.int 2)) (dOp subD (dOp ixD (dVar 0) (dC (.int 3))) (dOp ixD (dVar 0) (dC (.int 1))))) (dCons (dOp subD (dOp mulD (dC (.int 2)) (dOp ixD (dVar 1) (dC (.int 1)))) (dC (.int 1))) (dCons (dOp addD (dOp mulD (dC (.int 2)) (dOp ixD (dVar 1) (dC (.int 1)))) (dC (.int 1))) dNil)))))) (sSeq (sIf (dOr (dTest (dOp eqD (dVar 2) (dLst dNil))) (dTest (dOp eqD (dVar 3) (dLst dNil)))) (sRet (dC (.bl false))) sNext) (sSeq (sSet 4 (dCall c_law_later [] (dCons (dTup (dCons (dC (.int 0)) (dCons (dC (.int 1)) dNil))) (dCons (dCall c_law_later [] (dCons (dOp ixD (dVar 2) (dC (.int 0))) (dCons (dOp ixD (dVar 3) (dC (.int 0))) dNil))) dNil)))) (sSeq (sSet 5 (dCall c_law_sooner [] (dCons (dTup (dCons (dC (.int 1)) (dCons (dC (.int 1)) dNil))) (dCons (dCall c_law_sooner [] (dCons (dOp ixD (dVar 2) (dC (.int 1))) (dCons (dOp ixD (dVar 3) (dC (.int 1))) dNil))) dNil)))) (sSeq (sIf (dTest (dOp ltA (dOp mulD (dOp ixD (dVar 5) (dC (.int 0))) (dOp ixD (dVar 4) (dC (.int 1)))) (dOp mulD (dOp ixD (dVar 4) (dC (.int 0))) (dOp ixD (dVar 5) (dC (.int 1)))))) (sRet (dC (.bl false))) sNext) (sSeq (sSet 6 (dTup (dCons (dOp addD (dOp mulD (dOp ixD (dVar 4) (dC (.int 0))) (dOp ixD (dVar 5) (dC (.int 1)))) (dOp mulD (dOp ixD (dVar 5) (dC (.int 0))) (dOp ixD (dVar 4) (dC (.int 1))))) (dCons (dOp mulD (dOp mulD (dC (.int 2)) (dOp ixD (dVar 4) (dC (.int 1)))) (dOp ixD (dVar 5) (dC (.int 1)))) dNil)))) (sRet (dB anyD (dCons (dLc (iSeq (dLst (dCons (dVar 4) (dCons (dVar 5) (dCons (dVar 6) dNil))))) (gN 7) dYes (dCall c_law_inside [] (dCons (dVar 0) (dCons (dVar 7) (dCons (dVar 1) dNil)))) [7]) dNil))))))))))
def c_goes : DSp := fnD 14 2
  (sSeq (sAsg (dVar 0) (gT 4 (gsCons (gN 4) (gsCons (gN 5) (gsCons (gN 6) (gsCons (gN 7) gsNil)))))) (sSeq (sAsg (dTup (dCons (dTup (dCons (dC (.int 0)) (dCons (dC (.int 1)) dNil))) (dCons (dTup (dCons (dC (.int 1)) (dCons (dC (.int 1)) dNil))) dNil))) (gT 2 (gsCons (gN 8) (gsCons (gN 9) gsNil)))) (sSeq (sAsg2 2 3 (dC (.bl true))) (sSeq (sFor (iSeq (dTup (dCons (dTup (dCons (dVar 4) (dCons (dOp subD (dVar 6) (dVar 4)) (dCons (dOp ixD (dVar 1) (dC (.int 0))) dNil)))) (dCons (dTup (dCons (dVar 5) (dCons (dOp subD (dVar 7) (dVar 5)) (dCons (dOp ixD (dVar 1) (dC (.int 1))) dNil)))) dNil)))) (gT 3 (gsCons (gN 10) (gsCons (gN 11) (gsCons (gN 12) gsNil)))) (sSeq (sSet 13 (dCall c_span [] (dCons (dVar 10) (dCons (dVar 11) (dCons (dVar 12) dNil))))) (sSeq (sIf (dTest (dOp isNonD (dVar 13) (dC .non))) (sRet (dC (.bl false))) sNext) (sSeq (sIf (dOr (dTest (dCall c_below [] (dCons (dVar 8) (dCons (dOp ixD (dVar 13) (dC (.int 0))) dNil)))) (dAnd (dTest (dOp eqD (dVar 8) (dOp ixD (dVar 13) (dC (.int 0))))) (dNot (dTest (dOp ixD (dVar 13) (dC (.int 1))))))) (sPar 8 2 (dCons (dOp ixD (dVar 13) (dC (.int 0))) (dCons (dOp ixD (dVar 13) (dC (.int 1))) dNil))) sNext) (sIf (dOr (dTest (dCall c_below [] (dCons (dOp ixD (dVar 13) (dC (.int 2))) (dCons (dVar 9) dNil)))) (dAnd (dTest (dOp eqD (dVar 9) (dOp ixD (dVar 13) (dC (.int 2))))) (dNot (dTest (dOp ixD (dVar 13) (dC (.int 3))))))) (sPar 9 3 (dCons (dOp ixD (dVar 13) (dC (.int 2))) (dCons (dOp ixD (dVar 13) (dC (.int 3))) dNil))) sNext))))) (sRet (dOrV (dCall c_below [] (dCons (dVar 8) (dCons (dVar 9) dNil))) (dAndV (dOp eqD (dVar 8) (dVar 9)) (dAndV (dVar 2) (dVar 3)))))))))
def c_met_in : DSp := fnD 4 3
  (sSeq (sSet 3 (dCall c_meet [] (dCons (dVar 0) (dCons (dVar 1) dNil)))) (sRet (dAndV (dOp notNonD (dVar 3) (dC .non)) (dAndV (dOp eqD (dOp ixD (dVar 3) (dC (.int 0))) (dC (.str "at"))) (dOp eqD (dCall c_square_of [] (dCons (dOp ixD (dVar 3) (dC (.int 1))) dNil)) (dVar 2))))))
def c_goers : DSp := fnD 3 2
  (sRet (dB tupleD (dCons (dLc (iSeq (dB sortedC (dCons (dVar 0) dNil))) (gN 2) (dTest (dCall c_goes [] (dCons (dOp ixKD (dVar 0) (dVar 2)) (dCons (dVar 1) dNil)))) (dVar 2) [2]) dNil)))
def c_cold_right : DSp := fnD 6 3
  (sSeq (sIf (dTest (dOp neD (dVar 2) (dCall c_goers [] (dCons (dVar 0) (dCons (dVar 1) dNil))))) (sRet (dC (.bl false))) sNext) (sSeq (sIf (dTest (dB anyD (dCons (dLc (iSeq (dVar 2)) (gN 3) dYes (dOp inTD (dVar 1) (dTup (dCons (dSl (dOp ixKD (dVar 0) (dVar 3)) dNo (dPart (dC (.int 2)))) (dCons (dSl (dOp ixKD (dVar 0) (dVar 3)) (dPart (dC (.int 2))) dNo) dNil)))) [3]) dNil))) (sRet (dC (.bl false))) sNext) (sRet (dUn notD (dB anyD (dCons (dLc2 (iSeq (dVar 2)) (gN 4) dYes (iSeq (dVar 2)) (gN 5) (dTest (dOp ltA (dVar 4) (dVar 5))) (dCall c_met_in [] (dCons (dOp ixKD (dVar 0) (dVar 4)) (dCons (dOp ixKD (dVar 0) (dVar 5)) (dCons (dVar 1) dNil)))) [4, 5] [5]) dNil))))))
def c_judge_heat : DSp := fnD 3 3
  (sSeq (sIf (dTest (dOp eqD (dOp ixD (dVar 2) (dC (.int 0))) (dC (.str "cold")))) (sRet (dCall c_cold_right [] (dCons (dVar 0) (dCons (dVar 1) (dCons (dOp ixD (dVar 2) (dC (.int 1))) dNil))))) sNext) (sSeq (sIf (dTest (dOp notInKD (dOp ixD (dVar 2) (dC (.int 1))) (dVar 0))) (sRet (dC (.bl false))) sNext) (sSeq (sIf (dTest (dOp eqD (dOp ixD (dVar 2) (dC (.int 0))) (dC (.str "end")))) (sRet (dOp eqD (dVar 1) (dOp ixD (dTup (dCons (dSl (dOp ixKD (dVar 0) (dOp ixD (dVar 2) (dC (.int 1)))) dNo (dPart (dC (.int 2)))) (dCons (dSl (dOp ixKD (dVar 0) (dOp ixD (dVar 2) (dC (.int 1)))) (dPart (dC (.int 2))) dNo) dNil))) (dOp ixD (dVar 2) (dC (.int 2)))))) sNext) (sRet (dAndV (dOp inKD (dOp ixD (dVar 2) (dC (.int 2))) (dVar 0)) (dAndV (dOp ltA (dOp ixD (dVar 2) (dC (.int 1))) (dOp ixD (dVar 2) (dC (.int 2)))) (dCall c_met_in [] (dCons (dOp ixKD (dVar 0) (dOp ixD (dVar 2) (dC (.int 1)))) (dCons (dOp ixKD (dVar 0) (dOp ixD (dVar 2) (dC (.int 2)))) (dCons (dVar 1) dNil))))))))))
def c_law_postsO : DSp := fnO 11 2
  (sSeq (sPar 4 5 (dCons (dOp addD (dC (.int 8)) (dCall pullD [] (dCons (dVar 0) (dCons (dC (.int 25)) dNil)))) (dCons (dOp subD (dC (.int 1)) (dOp mulD (dC (.int 2)) (dCall pullD [] (dCons (dVar 0) (dCons (dC (.int 2)) dNil))))) dNil))) (sSeq (sPar 6 7 (dCons (dOp subD (dCall pullD [] (dCons (dVar 0) (dCons (dOp subD (dC (.int 81)) (dVar 4)) dNil))) (dC (.int 40))) (dCons (dOp subD (dCall pullD [] (dCons (dVar 0) (dCons (dC (.int 65)) dNil))) (dC (.int 32))) dNil))) (sSeq (sOwn 2 (dCons (dTup (dCons (dVar 6) (dCons (dVar 7) (dCons (dOp addD (dVar 6) (dVar 4)) (dCons (dOp addD (dVar 7) (dVar 5)) dNil))))) dNil)) (sSeq (sFor (iRng1D (dCons (dOp subD (dVar 1) (dC (.int 1))) dNil)) (gN 3) (sSeq (sPar 9 10 (dCons (dOp addD (dOp addD (dVar 6) (dC (.int 1))) (dCall pullD [] (dCons (dVar 0) (dCons (dOp subD (dVar 4) (dC (.int 1))) dNil)))) (dCons (dCall pullD [] (dCons (dVar 0) (dCons (dC (.int 2)) dNil))) dNil))) (sSeq (sSet 8 (dOp addD (dVar 7) (dOp mulD (dVar 5) (dVar 10)))) (sAppend 2 (dTup (dCons (dVar 9) (dCons (dVar 8) (dCons (dVar 9) (dCons (dOp addD (dVar 8) (dOp ixD (dLst (dCons (dUn negD (dC (.int 5))) (dCons (dC (.int 5)) dNil))) (dCall pullD [] (dCons (dVar 0) (dCons (dC (.int 2)) dNil))))) dNil))))))))) (sRetOwn 2)))))
def c_law_strokes : DSp := fnD 5 2
  (sSeq (sPar 3 4 (dCons (dCall c_law_base [] (dCons (dVar 0) dNil)) (dCons (dCall c_law_of [] (dCons (dVar 0) (dCons (dLst (dCons (dC (.int 2)) (dCons (dC (.int 4)) (dCons (dC (.int 7)) (dCons (dC (.int 7)) (dCons (dC (.int 12)) (dCons (dC (.int 40)) dNil))))))) dNil))) dNil))) (sSeq (sOwn 2 dNil) (sSeq (sIf (dAnd (dTest (dOp gtA (dVar 1) (dC (.int 1)))) (dTest (dOp eqD (dCall pullD [] (dCons (dVar 0) (dCons (dC (.int 4)) dNil))) (dC (.int 0))))) (sSeq (sSetO 2 (dCall c_law_postsO [] (dCons (dVar 0) (dCons (dOp addD (dC (.int 2)) (dCall pullD [] (dCons (dVar 0) (dCons (dOp subD (dVar 1) (dC (.int 1))) dNil)))) dNil)))) (sSet 3 (dBor 2 (dSl (dOp ixD (dVar 2) (dC (.int 0))) dNo (dPart (dC (.int 2))))))) sNext) (sSeq (sWhile (dBorT 2 (dTest (dOp ltA (dB lenD (dCons (dVar 2) dNil)) (dVar 1)))) (sAppend 2 (dBor 2 (dCall c_law_beside [] (dCons (dVar 0) (dCons (dVar 3) (dCons (dVar 4) (dCons (dVar 2) dNil)))))))) (sRetOwn 2)))))
def c_law_causes : DSp := fnD 9 1
  (sSeq (sSet 1 (dB sortedC (dCons (dVar 0) dNil))) (sSeq (sOwn 2 dNil) (sSeq (sFor (iRng1D (dCons (dB lenD (dCons (dVar 1) dNil)) dNil)) (gN 3) (sSeq (sSet 4 (dOp ixKD (dVar 0) (dOp ixD (dVar 1) (dVar 3)))) (sSeq (sAppend 2 (dTup (dCons (dSl (dVar 4) dNo (dPart (dC (.int 2)))) (dCons (dTup (dCons (dC (.str "end")) (dCons (dOp ixD (dVar 1) (dVar 3)) (dCons (dC (.int 0)) dNil)))) dNil)))) (sSeq (sAppend 2 (dTup (dCons (dSl (dVar 4) (dPart (dC (.int 2))) dNo) (dCons (dTup (dCons (dC (.str "end")) (dCons (dOp ixD (dVar 1) (dVar 3)) (dCons (dC (.int 1)) dNil)))) dNil)))) (sFor (iSeq (dSl (dVar 1) dNo (dPart (dVar 3)))) (gN 5) (sSeq (sSet 6 (dCall c_law_meet [] (dCons (dOp ixKD (dVar 0) (dVar 5)) (dCons (dVar 4) dNil)))) (sIf (dAnd (dTest (dOp notNonD (dVar 6) (dC .non))) (dTest (dOp eqD (dOp ixD (dVar 6) (dC (.int 0))) (dC (.str "at"))))) (sSeq (sAsg (dOp ixD (dVar 6) (dC (.int 1))) (gT 2 (gsCons (gN 7) (gsCons (gN 8) gsNil)))) (sAppend 2 (dTup (dCons (dTup (dCons (dCall c_nearest [] (dCons (dVar 7) dNil)) (dCons (dCall c_nearest [] (dCons (dVar 8) dNil)) dNil))) (dCons (dTup (dCons (dC (.str "cross")) (dCons (dVar 5) (dCons (dOp ixD (dVar 1) (dVar 3)) dNil)))) dNil))))) sNext))))))) (sFrz 2 (sRet (dB sortedC (dCons (dVar 2) dNil)))))))
def c_law_hot : DSp := fnD 4 1
  (sSeq (sSetO 1 dD0) (sSeq (sFor (iSeq (dCall c_law_causes [] (dCons (dVar 0) dNil))) (gT 2 (gsCons (gN 2) (gsCons (gN 3) gsNil))) (sPutD 1 (dVar 2) (dC (.bl true)))) (sFrz 1 (sRet (dB sortedC (dCons (dVar 1) dNil))))))
def c_law_paper_right : DSp := fnD 5 3
  (sSeq (sIf (dTest (dOp eqD (dOp ixD (dVar 2) (dC (.int 0))) (dC (.str "cold")))) (sSeq (sSet 3 (dB tupleD (dCons (dLc (iSeq (dB sortedC (dCons (dVar 0) dNil))) (gN 4) (dTest (dCall c_law_goes [] (dCons (dOp ixKD (dVar 0) (dVar 4)) (dCons (dVar 1) dNil)))) (dVar 4) [4]) dNil))) (sRet (dAndV (dOp eqD (dOp ixD (dVar 2) (dC (.int 1))) (dVar 3)) (dOp notInD (dVar 1) (dCall c_law_hot [] (dCons (dVar 0) dNil)))))) sNext) (sRet (dOp inD (dTup (dCons (dVar 1) (dCons (dVar 2) dNil))) (dCall c_law_causes [] (dCons (dVar 0) dNil)))))
end DV

namespace DV
open PySem PySem.Spec PyProof.Rows L2

/-! ### list + list, the sum one's own -/
section
variable {X : Cx} {a b : Expr} {ta tb : DE} {pos : Pos}
end
end DV

namespace DV
open PySem PySem.Spec PyProof.Rows L2 PySem.SeqAt

/-! ### {e for ta in ia if .. for tb in ib if ..}: sets of tuples of numbers, two for parts -/
section
variable {P : Program} {w : World} {Z : Around} {R : Result → Shared → Prop} {s : Shared} {e ta ia tb ib : Expr} {ca cb : List Expr} {sc : Scope} {ps : Pos} {src S : Value} {en : Env}
abbrev tests (cs : List Expr) (en : Env) : Sem Bool := forIn cs true fun c r => if r = true then do let go ← isTrue c en (eval c en); pure (ForInStep.yield go) else pure (ForInStep.yield r)
end
section
variable {X : Cx} {elt tg iter tg1 iter1 : Expr} {ifs ifs1 : List Expr} {scope : Scope} {own : List (Str × Nat)} {vs1 : List Nat} {pos : Pos}
end
end DV

namespace DV
open PySem PySem.Spec PyProof.Rows L2 PySem.SeqAt

/-! ### sorted({e for a in x for b in y}) -/
def insK (k : List Int) (acc : List (List Int)) : List (List Int) := if k ∈ acc then acc else k :: acc
/-- the set as it stands -/
structure SetAt (X : Cx) (F1 H1 : Hp) (S : Addr) (acc : List (List Int)) (F' H' : Hp) (L : List (Addr × List Int)) : Prop where
  x : Ext F1 H1 F' H'
  f : F' S = none
  h : H' S = some (SetTO X.prog X.w S L)
  rk : ∀ p ∈ L, Rp X.K F' (.ref p.1) (ikD p.2)
  ne : ∀ p ∈ L, p.2 ≠ []
  nd : (L.map (·.2)).Nodup
  mem : ∀ k, k ∈ L.map (·.2) ↔ k ∈ acc
  len : L.length ≤ acc.length
section
variable {X : Cx} {F1 H1 F' H' F2 H2 : Hp} {S : Addr} {acc : List (List Int)} {L : List (Addr × List Int)}
theorem SetAt.on (A : SetAt X F1 H1 S acc F' H' L) (y : Ext F' H' F2 H2) : SetAt X F1 H1 S acc F2 H2 L :=
  have k := y.keep S _ A.f A.h
  ⟨A.x.trans y, k.2, k.1, fun p hp => (A.rk p hp).mono y.mono, A.ne, A.nd, A.mem, A.len⟩
theorem SetAt.add (hD : H1 S = none) (A : SetAt X F1 H1 S acc F' H' L) {t : Addr} {k : List Int} (ry : Rp X.K F' (.ref t) (ikD k)) (nk : k ≠ []) {L' : List (Addr × List Int)} (c1 : k ∈ L.map (·.2) → L' = L) (c2 : k ∉ L.map (·.2) → L'.Perm ((t, k) :: L)) :
    SetAt X F1 H1 S (insK k acc) F' (upd H' S (SetTO X.prog X.w S L')) L' := by
  have base : Ext F1 H1 F' (upd H' S (SetTO X.prog X.w S L')) := ⟨A.x.mono, fun a o e z => by
    rw [upd_ne (ne_of_none z hD)]
    exact A.x.keep a o e z, Ext.own A.x.sub A.f⟩
  by_cases hm : k ∈ L.map (·.2)
  · have e := c1 hm
    subst e
    have ea : insK k acc = acc := if_pos ((A.mem k).mp hm)
    rw [ea]
    exact ⟨base, A.f, upd_same, A.rk, A.ne, A.nd, A.mem, A.len⟩
  · have pm := c2 hm
    have pk := pm.map (·.2)
    have ea : insK k acc = k :: acc := if_neg fun z => hm ((A.mem k).mpr z)
    rw [ea]
    refine ⟨base, A.f, upd_same, fun p hp => ?_, fun p hp => ?_, pk.nodup_iff.mpr (List.nodup_cons.mpr ⟨hm, A.nd⟩), fun x => ?_, ?_⟩
    · rcases List.mem_cons.mp (pm.mem_iff.mp hp) with rfl | z
      · exact ry
      · exact A.rk p z
    · rcases List.mem_cons.mp (pm.mem_iff.mp hp) with rfl | z
      · exact nk
      · exact A.ne p z
    · rw [pk.mem_iff, List.map_cons, List.mem_cons, List.mem_cons, A.mem x]
    · rw [pm.length_eq, List.length_cons, List.length_cons]
      exact Nat.succ_le_succ A.len
end
section
variable {X : Cx} {elt tg iter tg1 iter1 : Expr} {ifs ifs1 : List Expr} {scope : Scope} {own : List (Str × Nat)} {vs1 : List Nat} {pos pos' p : Pos} {it it1 : DI} {g g1 : TG} {g' g1' : DG} {tt tt1 : DT} {te : DE}
end
end DV

namespace DV
open PySem PySem.Spec PyProof.Rows L2

/-! ### xs.extend(ys), xs a list of one's own -/
section
variable {X : Cx} {e : Expr} {t : DE} {pos : Pos}
end
/-! ### d == e of dicts with the same keys in the same order (texts or numbers) -/
structure SameK (a b : List (D × D)) : Prop where
  ks : a.map (·.1) = b.map (·.1)
  fl : ∀ q ∈ a, q.1.flt = true
  la : ∀ q ∈ a, q.2.lay = true
  lb : ∀ q ∈ b, q.2.lay = true
def rEqK (K : PySem.W.Frag) (f : Bool → Bool) : R2 := fun x y H Q => ∃ F k1 k2, Sub F H ∧ Rp K F x (.dic k1) ∧ Rp K F y (.dic k2) ∧ SameK k1 k2 ∧ Q (.bl (f (D.eqbs (k1.map (·.2)) (k2.map (·.2))))) H
section
variable {X : Cx} {pins : List (Addr × Obj)} {σ : St} {H : Hp} {s : Shared}
theorem hits_dec (I : Inv X pins σ H s) {F : Hp} (sb : Sub F H) {A : Around} (hu : A.in1.units + 64 < cLine) {VB : List (L2.Key × Value)} (nd : (VB.map (·.1)).Nodup) : ∀ {ks ls : List (L2.Key × V)} {va vb : List (L2.Key × Value)} {ds es : List D}, KV ks va → KV ls vb → (∀ p ∈ vb, p ∈ VB) → ks.map (·.1) = ls.map (·.1) →
    RpA X.K F (ks.map (·.2)) ds → RpA X.K F (ls.map (·.2)) es → (∀ d ∈ ds, d.lay = true) → (∀ d ∈ es, d.lay = true) → PySem.W.KeqHits A.in1 s VB va (D.eqbs ds es) := by
  intro ks ls va vb ds es r1
  unfold KV at r1
  induction r1 generalizing ls vb ds es with
  | nil =>
    intro r2 _ he ra rb _ _
    cases ra
    cases ls with
    | nil => cases rb; exact .nil
    | cons q ls => simp at he
  | @cons p q ps qs h t ih =>
    intro r2 hm he ra rb hl hl2
    cases r2 with
    | nil => simp at he
    | @cons p' q' ps' qs' h' t' =>
      simp only [List.map_cons, List.cons.injEq] at he
      simp only [List.map_cons] at ra rb
      cases ds with
      | nil => cases ra
      | cons d ds =>
        cases es with
        | nil => cases rb
        | cons e es =>
          cases ra with
          | cons ra1 ra2 =>
            cases rb with
            | cons rb1 rb2 =>
              have l1 := lay_and (hl d List.mem_cons_self)
              have l2 := lay_and (hl2 e List.mem_cons_self)
              obtain ⟨as, x1⟩ := Dp.reads I d.toP p.2 q.2 (ra1.dp sb l1.1) h.2
              obtain ⟨bs, x2⟩ := Dp.reads I e.toP p'.2 q'.2 (rb1.dp sb l2.1) h'.2
              have eq := PySem.W.keq_at (A := A) x1 x2 l1.2 l2.2 hu
              rw [eqb_toP _ _ l1.1 l2.1] at eq
              obtain ⟨k, v⟩ := q
              have ek : p.1 = k := h.1
              have ek' : p'.1 = q'.1 := h'.1
              have hv : valueAt VB k = some q'.2 := value_at nd (by
                have z := hm q' List.mem_cons_self
                rw [← ek, he.1, ek']
                exact z)
              show PySem.W.KeqHits A.in1 s VB ((k, v) :: qs) (D.eqb d e && D.eqbs ds es)
              exact .hit hv eq (ih t' (fun p hp => hm p (List.mem_cons_of_mem _ hp)) he.2 ra2 rb2 (fun x hx => hl x (List.mem_cons_of_mem _ hx)) fun x hx => hl2 x (List.mem_cons_of_mem _ hx))
theorem dec_parts (hu : X.A.units + 65 < cLine) (I : Inv X pins σ H s) {x y : V} {v u : Value} {F : Hp} {k1 k2 : List (D × D)} (sb : Sub F H) (r1 : Rp X.K F x (.dic k1)) (r2 : Rp X.K F y (.dic k2)) (sk : SameK k1 k2) (rx : RelV x v) (ry : RelV y u) :
    ∃ a b va vb, v = .ref a ∧ u = .ref b ∧ (a == sysModules) = false ∧ (b == sysModules) = false ∧ s.heap.DictOf (mixKind X.prog X.w) a va ∧ s.heap.DictOf (mixKind X.prog X.w) b vb ∧ va.length = vb.length ∧ PySem.W.KeqHits X.A.in1 s vb va (D.eqbs (k1.map (·.2)) (k2.map (·.2))) := by
  have fl2 : ∀ q ∈ k2, q.1.flt = true := fun q hq => by
    have : q.1 ∈ k1.map (·.1) := by rw [sk.ks]; exact List.mem_map.mpr ⟨q, hq, rfl⟩
    obtain ⟨r, hr, e⟩ := List.mem_map.mp this
    rw [← e]
    exact sk.fl r hr
  obtain ⟨a, o, ks, rfl, fa, ra, ea⟩ := frz_keys r1 sk.fl
  obtain ⟨b, o', ls, rfl, fb, rb, eb⟩ := frz_keys r2 fl2
  obtain rfl : v = Value.ref a := rx
  obtain rfl : u = Value.ref b := ry
  obtain ⟨_, ya, va, va1, da⟩ := dk_rd I.hok (.inr ⟨o, sb.frz fa⟩)
  obtain ⟨_, yb, vb, vb1, db⟩ := dk_rd I.hok (.inr ⟨o', sb.frz fb⟩)
  have he := keys_eq ((ea.symm.trans sk.ks).trans eb)
  have nd : (vb.map (·.1)).Nodup := by
    obtain ⟨_, _, _, _, _, _, _, _, z⟩ := db
    exact z
  have hl : va.length = vb.length := by
    rw [← va1.length, ← vb1.length]
    have := congrArg List.length he
    simpa using this
  refine ⟨a, b, va, vb, rfl, rfl, ya, yb, da, db, hl, hits_dec I sb (by rw [Around.in1_units]; omega) nd va1 vb1 (fun p hp => hp) he ra rb (fun d hd => ?_) fun d hd => ?_⟩
  · obtain ⟨q, hq, rfl⟩ := List.mem_map.mp hd
    exact sk.la q hq
  · obtain ⟨q, hq, rfl⟩ := List.mem_map.mp hd
    exact sk.lb q hq
theorem op_neDec (hu : X.A.units + 65 < cLine) : OpR X (compareOp .NotEq) (rEqK X.K not) := by
  intro pins s σ H x y v u Q I rx ry h
  obtain ⟨F, k1, k2, sb, r1, r2, sk, q⟩ := h
  obtain ⟨a, b, va, vb, rfl, rfl, ya, yb, da, db, hl, hh⟩ := dec_parts hu I sb r1 r2 sk rx ry
  refine PySem.W.keq_ne (knd := mixKind X.prog X.w) ya yb da db (by omega) (fun _ => hh) ?_
  refine ⟨_, H, I, ?_, q⟩
  have e : (va.length == vb.length) = true := by simpa using hl
  rw [e, Bool.true_and]
  rfl
end
def neKD : D2 := fun x y Q => match x, y with
  | .dic a, .dic b => SameK a b ∧ Q (.bl (!D.eqbs (a.map (·.2)) (b.map (·.2))))
  | _, _ => False
theorem od_neDec {K : PySem.W.Frag} : OpD K (rEqK K not) neKD := fun F H x y dx dy Q0 Q s rx ry q k => by
  cases dx <;> first | exact q.elim | skip
  cases dy <;> first | exact q.elim | skip
  obtain ⟨h, q⟩ := q
  exact ⟨F, _, _, s, rx, ry, h, k _ H F _ (.refl s) (.bl _) q⟩
end DV

namespace DV
open PySem PySem.Spec PyProof.Rows L2 LiI

/-! ### list(d.items()), d frozen -/
section
variable {X : Cx} {e : Expr} {te : TE} {t : DE} {p apos cpos pos : Pos}
end
end DV
namespace PySem.SeqAt
open AutoSeq1 (wpAny_loadPart')
open MeetsSeq MeetsSeq2 MeetsSeq3 SeqRoads2
section
variable {P : Program} {w : World} {A : Around} {s : Shared}
end
end PySem.SeqAt
namespace DV
open PySem PySem.Spec PyProof.Rows L2 PySem.SeqAt
/-! ### (d, n) != (e, m) where they are equal -/
/-! ### list(d): its keys -/
end DV

namespace DV
open PySem PySem.Spec PyProof.Rows L2 PySem.SeqAt

/-! ### sorted(xs, key=lambda ..), xs a list or a tuple -/
section
variable {P : Program} {w : World} {A : Around} {E : Value → Shared → Prop}
variable {s : Shared}
end
section
variable {X : Cx} {e body : Expr} {t te : DE} {params : Arguments} {scope : Scope} {T : List (Addr × Str)} {P c : Addr} {i j k : Nat} {a : Str} {p lpos kp pos : Pos}
end
end DV

namespace DV
open PySem PySem.Spec PyProof.Rows L2

/-! ### x, y = e, f, both values one's own -/
section
variable {X : Cx} {a b : Expr} {ta tb : DE} {pos : Pos}
end
end DV

/-! Sets of up to four thousand keys: the masks, the way of a search, tables. -/
namespace DV
open PySem PySem.Spec PyProof.Rows L2

/-- one round of the step i -> 5 i + 1, told by bits -/
def orbT (m : Nat) : Nat → Nat → Nat → Bool
  | 0, acc, x => acc == 2 ^ (m + 1) - 1 && x == 0
  | n + 1, acc, x => bif Nat.ble acc (2 ^ (m + 1)) && Nat.ble x m then orbT m n (acc ||| 2 ^ x) ((x * 5 + 1) % (m + 1)) else false
theorem orbT_ok {m : Nat} : ∀ (n a acc : Nat), orbT m n acc (lcgN m a) = true → (∀ j, acc.testBit j = true → ∃ b, b < a ∧ lcgN m b = j) → (∀ j, j ≤ m → ∃ b, b < a + n ∧ lcgN m b = j) ∧ lcgN m (a + n) = 0
  | 0, a, acc, h, g => by
    simp only [orbT, Bool.and_eq_true, beq_iff_eq] at h
    refine ⟨fun j hj => g j ?_, h.2⟩
    rw [h.1, Nat.testBit_two_pow_sub_one]
    exact decide_eq_true (by omega)
  | n + 1, a, acc, h, g => by
    have h' : (bif Nat.ble acc (2 ^ (m + 1)) && Nat.ble (lcgN m a) m then orbT m n (acc ||| 2 ^ lcgN m a) (lcgN m (a + 1)) else false) = true := h
    cases c : (Nat.ble acc (2 ^ (m + 1)) && Nat.ble (lcgN m a) m) with
    | false => rw [c] at h'; cases h'
    | true =>
      rw [c] at h'
      have r := orbT_ok n (a + 1) (acc ||| 2 ^ lcgN m a) h' fun j hj => by
        rw [Nat.testBit_or, Bool.or_eq_true] at hj
        rcases hj with hj | hj
        · obtain ⟨b, h1, h2⟩ := g j hj
          exact ⟨b, by omega, h2⟩
        · rw [Nat.testBit_two_pow, decide_eq_true_eq] at hj
          exact ⟨a, by omega, hj⟩
      rw [show a + (n + 1) = a + 1 + n by omega]
      exact r
/-- the masks of the tables that come -/
def BigM (m : Nat) : Prop := m ∈ [7, 31, 127, 511, 2047, 8191]
theorem bigM_cases {m : Nat} (h : BigM m) : m = 7 ∨ m = 31 ∨ m = 127 ∨ m = 511 ∨ m = 2047 ∨ m = 8191 := by
  unfold BigM at h
  simpa using h
theorem orb_big {m : Nat} (h : BigM m) : orbT m (m + 1) 0 0 = true := by
  rcases bigM_cases h with rfl | rfl | rfl | rfl | rfl | rfl <;> decide +kernel
theorem round_big {m : Nat} (h : BigM m) : (∀ j, j ≤ m → ∃ b, b ≤ m ∧ lcgN m b = j) ∧ lcgN m (m + 1) = 0 := by
  have := orbT_ok (m := m) (m + 1) 0 0 (orb_big h) (fun j hj => by simp at hj)
  rw [Nat.zero_add] at this
  refine ⟨fun j hj => ?_, this.2⟩
  obtain ⟨b, h1, h2⟩ := this.1 j hj
  exact ⟨b, by omega, h2⟩
/-- from any slot the steps come to any other one -/
theorem step_to {m : Nat} (h : BigM m) {i j : Nat} (hi : i ≤ m) (hj : j ≤ m) : ∃ k, k ≤ m ∧ lcgI m i k = j := by
  obtain ⟨all, z⟩ := round_big h
  have per : ∀ k, lcgN m (m + 1 + k) = lcgN m k := fun k => by
    rw [← lcgN_add, z]
    have := lcgN_add m 0 k
    rwa [Nat.zero_add] at this
  obtain ⟨a, a1, rfl⟩ := all i hi
  obtain ⟨b, b1, rfl⟩ := all j hj
  by_cases c : a ≤ b
  · exact ⟨b - a, by omega, by rw [lcgN_add]; congr 1; omega⟩
  · refine ⟨m + 1 + b - a, by omega, ?_⟩
    rw [lcgN_add, show a + (m + 1 + b - a) = m + 1 + b by omega]
    exact per b
/-- the n-th run of the search for h begins at j, for some n -/
theorem run_to {m : Nat} (hm : BigM m) (h : Int) {j : Nat} (hj : j ≤ m) : ∃ n, n ≤ m + 12 ∧ runI m (SetTable.bits h) n = j := by
  obtain ⟨k, k1, k2⟩ := step_to hm (runI_le m (SetTable.bits h) 12) hj
  refine ⟨12 + k, by omega, ?_⟩
  rw [runI_tail (bits_lt h)]
  exact k2
theorem way_in {m : Nat} {h : Int} {k : Nat} : way m h k ≤ m := by
  have b0 : SetTable.bits h % (m + 1) ≤ m := by
    have := Nat.mod_lt (SetTable.bits h) (show 0 < m + 1 by omega)
    omega
  have b1 := runEnd_bd b0
  have start : (runAt m (SetTable.bits h % (m + 1)) (SetTable.bits h)).j + (runAt m (SetTable.bits h % (m + 1)) (SetTable.bits h)).more ≤ m := by
    show SetTable.bits h % (m + 1) + (SetTable.runEnd m (SetTable.bits h % (m + 1)) - SetTable.bits h % (m + 1)) ≤ m
    omega
  have e := nth_in k _ start
  exact Nat.le_trans (Nat.le_add_right _ _) e
theorem way_to {m : Nat} (hm : BigM m) (h : Int) {j : Nat} (hj : j ≤ m) : ∃ k, k < 10 * SetTable.turns m ∧ way m h k = j := by
  obtain ⟨n, n1, n2⟩ := run_to hm h hj
  obtain ⟨k, k1, k2⟩ := run_nth m (SetTable.bits h) n
  have lt : k < 10 * SetTable.turns m := by unfold SetTable.turns; omega
  refine ⟨k, lt, ?_⟩
  have e : way m h k = runI m (SetTable.bits h) n := congrArg SetTable.Probe.j k2
  rw [e, n2]
/-! ### tables -/
/-- the members' hashes hs stand in the table, each found again -/
structure Tbl (t : SetTable) (hs : List Int) : Prop where
  up : Ris t.place.toList
  nodm : t.dummies = #[]
  many : t.place.size = hs.length
  big : BigM t.mask
  within : ∀ x ∈ t.place.toList, x ≤ t.mask
  found : ∀ (i : Nat) (h : Int) (j : Nat), hs[i]? = some h → t.place.toList[i]? = some j → ∃ k, way t.mask h k = j ∧ ∀ l, l < k → way t.mask h l ∈ t.place.toList
theorem Tbl.len {t : SetTable} {hs : List Int} (T : Tbl t hs) : t.place.toList.length = hs.length := by rw [Array.length_toList]; exact T.many
theorem big_odd {m : Nat} (h : BigM m) : m % 2 = 1 := by
  rcases bigM_cases h with rfl | rfl | rfl | rfl | rfl | rfl <;> rfl
theorem slot_out {m : Nat} (hm : BigM m) {pl : List Nat} (hl : pl.length ≤ m) (h : Int) : ∃ K, K < 10 * SetTable.turns m ∧ way m h K ∉ pl ∧ ∀ k, k < K → way m h k ∈ pl := by
  obtain ⟨j, j1, j2⟩ := st_missing pl (m + 1) (by omega)
  obtain ⟨k, k1, k2⟩ := way_to hm h (j := j) (by omega)
  obtain ⟨K, h1, h2, h3⟩ := st_least (p := fun k => way m h k ∉ pl) k (k2 ▸ j2)
  exact ⟨K, by omega, h2, fun l hl => Classical.byContradiction fun n => h3 l hl n⟩
theorem Tbl.ahead {t : SetTable} {hs : List Int} (T : Tbl t hs) {h : Int} {K i j : Nat} (hK : way t.mask h K ∉ t.place.toList) (hi : hs[i]? = some h) (hj : t.place.toList[i]? = some j) : ∃ k, k < K ∧ way t.mask h k = j := by
  obtain ⟨k, e, b⟩ := T.found i h j hi hj
  refine ⟨k, Nat.lt_of_not_le fun le => ?_, e⟩
  rcases Nat.lt_or_eq_of_le le with lt | eq
  · exact hK (b K lt)
  · subst eq
    rw [e] at hK
    exact hK (List.mem_of_getElem? hj)
/-- one more, put at the first free slot of its way -/
theorem Tbl.more {t : SetTable} {hs : List Int} (T : Tbl t hs) {h : Int} {K : Nat} (hK : way t.mask h K ∉ t.place.toList) (hb : ∀ k, k < K → way t.mask h k ∈ t.place.toList) {p : Nat} (hp : p = SetTable.below t.place (way t.mask h K)) :
    (t.put (way t.mask h K)).2 = p ∧ p ≤ hs.length ∧ Tbl (t.put (way t.mask h K)).1 (hs.take p ++ h :: hs.drop p) ∧ (t.put (way t.mask h K)).1.mask = t.mask ∧ (t.put (way t.mask h K)).1.led = t.led ∧ (t.put (way t.mask h K)).1.plain = t.plain ∧
      (t.put (way t.mask h K)).1.fill = hs.length + 1 := by
  have wm : way t.mask h K ≤ t.mask := way_in
  have cut := (below_cut T.up (way t.mask h K)).1
  have pp := put_place t (way t.mask h K)
  have pd := put_dm T.nodm (way t.mask h K)
  have not_at : t.place[SetTable.below t.place (way t.mask h K)]? ≠ some (way t.mask h K) := fun e => by
    rw [← Array.getElem?_toList] at e
    exact hK (List.mem_of_getElem? e)
  have up2 := ris_insert T.up not_at
  have l1 := T.len
  rw [← hp] at cut pp up2
  have c1 : p ≤ t.place.toList.length := by rw [Array.length_toList]; exact cut
  have c2 : p ≤ hs.length := by omega
  have mem2 : ∀ {x : Nat}, x ∈ (t.put (way t.mask h K)).1.place.toList ↔ x = way t.mask h K ∨ x ∈ t.place.toList := fun {x} => by rw [pp]; exact mem_ins
  have size2 : (t.put (way t.mask h K)).1.place.size = hs.length + 1 := by
    rw [← Array.length_toList, pp, len_ins _ c1, l1]
  refine ⟨hp.symm, c2, ⟨by rw [show (t.put (way t.mask h K)).1.place = SetTable.insertAt t.place p (way t.mask h K) by rw [hp]; rfl]; exact up2, pd, by rw [size2, len_ins _ c2], T.big, fun x hx => ?_, fun i g j e1 e2 => ?_⟩, rfl, rfl, rfl, ?_⟩
  · rcases mem2.mp hx with rfl | hx
    · exact wm
    · exact T.within x hx
  · rw [tins_get hs c2] at e1
    rw [pp, tins_get _ c1] at e2
    have widen : ∀ i, hs[i]? = some g → t.place.toList[i]? = some j → ∃ k, way t.mask g k = j ∧ ∀ l, l < k → way t.mask g l ∈ (t.put (way t.mask h K)).1.place.toList := fun i a b => by
      obtain ⟨k, k1, k2⟩ := T.found i g j a b
      exact ⟨k, k1, fun l hl => mem2.mpr (.inr (k2 l hl))⟩
    show ∃ k, way t.mask g k = j ∧ ∀ l, l < k → way t.mask g l ∈ (t.put (way t.mask h K)).1.place.toList
    by_cases a : i < p
    · rw [if_pos a] at e1 e2
      exact widen i e1 e2
    · rw [if_neg a] at e1 e2
      by_cases b : i = p
      · rw [if_pos b] at e1 e2
        cases e1
        cases e2
        exact ⟨K, rfl, fun l hl => mem2.mpr (.inr (hb l hl))⟩
      · rw [if_neg b] at e1 e2
        exact widen (i - 1) e1 e2
  · show (t.put (way t.mask h K)).1.place.size + (t.put (way t.mask h K)).1.dummies.size = hs.length + 1
    rw [size2, pd]
    rfl
/-! ### a table laid anew -/
theorem free_at {m : Nat} (hm : BigM m) (ow : Array (Option Nat)) (h : Int) {j : Nat} (hj : j ≤ m) (hf : oAt ow j = none) :
    ∃ K, SetTable.layClean.free m ow (SetTable.turns m) (SetTable.bits h % (m + 1)) (SetTable.bits h) = some (way m h K) ∧ oAt ow (way m h K) = none ∧ ∀ k, k < K → oAt ow (way m h k) ≠ none := by
  obtain ⟨n, n1, n2⟩ := run_to hm h hj
  have at_n : way m h (off m (SetTable.bits h % (m + 1)) (SetTable.bits h) n) = j := by
    have e := congrArg SetTable.Probe.j (nth_off m n (SetTable.bits h % (m + 1)) (SetTable.bits h))
    rw [itL_run] at e
    exact e.trans n2
  obtain ⟨K, a, b, c⟩ := st_least (p := fun k => oAt ow (way m h k) = none) _ (show oAt ow (way m h (off m (SetTable.bits h % (m + 1)) (SetTable.bits h) n)) = none by rw [at_n]; exact hf)
  refine ⟨K, free_spec m ow _ n _ _ K (by unfold SetTable.turns; omega) a (fun k hk => ?_) ?_, b, c⟩
  · have := c k hk
    cases z : oAt ow (nth m (runAt m (SetTable.bits h % (m + 1)) (SetTable.bits h)) k).j with
    | none => exact absurd z this
    | some _ => rfl
  · exact congrArg Option.isNone b
/-- who owns which slot, the first ones being laid -/
structure Lain (m : Nat) (done : List Int) (ow : Array (Option Nat)) : Prop where
  size : ow.size = m + 1
  slot : ∀ j k, j ≤ m → oAt ow j = some k → ∃ h K, done[k]? = some h ∧ way m h K = j ∧ ∀ l, l < K → oAt ow (way m h l) ≠ none
  each : ∀ k, k < done.length → ∃ j, j ≤ m ∧ oAt ow j = some k
  used : ∃ us : List Nat, us.length = done.length ∧ ∀ j, j ≤ m → oAt ow j ≠ none → j ∈ us
theorem Lain.start (m : Nat) : Lain m [] (Array.replicate (m + 1) none) := by
  refine ⟨Array.size_replicate, fun j k hj e => ?_, fun k hk => absurd hk (by simp), [], rfl, fun j hj e => absurd (oAt_init hj) e⟩
  rw [oAt_init hj] at e
  cases e
theorem Lain.next {m : Nat} (hm : BigM m) {done : List Int} {ow : Array (Option Nat)} (L : Lain m done ow) (hl : done.length ≤ m) (h : Int) :
    ∃ j, SetTable.layClean.free m ow (SetTable.turns m) (SetTable.bits h % (m + 1)) (SetTable.bits h) = some j ∧ Lain m (done ++ [h]) (ow.setIfInBounds j (some done.length)) := by
  obtain ⟨us, u1, u2⟩ := L.used
  obtain ⟨j, j1, j2⟩ := st_missing us (m + 1) (by omega)
  have jf : oAt ow j = none := by
    cases z : oAt ow j with
    | none => rfl
    | some k => exact absurd (u2 j (by omega) (by rw [z]; simp)) j2
  obtain ⟨K, f1, f2, f3⟩ := free_at hm ow h (by omega) jf
  have win : way m h K ≤ m := way_in
  have inb : way m h K < ow.size := by rw [L.size]; omega
  have same := oAt_set_self (some done.length) inb
  have keep : ∀ {i : Nat}, oAt ow i ≠ none → oAt (ow.setIfInBounds (way m h K) (some done.length)) i ≠ none := fun {i} hi => by
    by_cases c : i = way m h K
    · rw [c, same]; simp
    · rw [oAt_set_ne _ c]; exact hi
  refine ⟨_, f1, by rw [Array.size_setIfInBounds]; exact L.size, fun i k hi e => ?_, fun k hk => ?_, way m h K :: us, by simp [u1], fun i hi e => ?_⟩
  · by_cases c : i = way m h K
    · subst c
      rw [same] at e
      cases e
      exact ⟨h, K, by rw [List.getElem?_append_right (Nat.le_refl _), Nat.sub_self]; rfl, rfl, fun l hl => keep (f3 l hl)⟩
    · rw [oAt_set_ne _ c] at e
      obtain ⟨g, K', a, b, d⟩ := L.slot i k hi e
      refine ⟨g, K', ?_, b, fun l hl => keep (d l hl)⟩
      rw [List.getElem?_append_left (List.getElem?_eq_some_iff.mp a).1]
      exact a
  · rw [List.length_append, List.length_singleton] at hk
    by_cases c : k < done.length
    · obtain ⟨i, i1, i2⟩ := L.each k c
      refine ⟨i, i1, ?_⟩
      rw [oAt_set_ne _ fun e => by rw [e, f2] at i2; cases i2]
      exact i2
    · have : k = done.length := by omega
      subst this
      exact ⟨_, win, same⟩
  · by_cases c : i = way m h K
    · rw [c]; exact List.mem_cons_self
    · rw [oAt_set_ne _ c] at e
      exact List.mem_cons_of_mem _ (u2 i hi e)
theorem lain_fold {m : Nat} (hm : BigM m) : ∀ (rest done : List Int) (ow : Array (Option Nat)), Lain m done ow → done.length + rest.length ≤ m →
    ∃ ow', rest.foldl (stepF m) (some (ow, done.length)) = some (ow', (done ++ rest).length) ∧ Lain m (done ++ rest) ow'
  | [], done, ow, L, _ => ⟨ow, by simp, by simpa using L⟩
  | h :: rest, done, ow, L, hl => by
    have hl2 : done.length + (rest.length + 1) ≤ m := hl
    obtain ⟨j, e, L2⟩ := L.next hm (by omega) h
    obtain ⟨ow', f, L3⟩ := lain_fold hm rest (done ++ [h]) _ L2 (by simp; omega)
    rw [List.append_assoc, List.singleton_append] at f L3
    refine ⟨ow', ?_, L3⟩
    rw [List.foldl_cons, stepF_some e]
    rw [List.length_append, List.length_singleton] at f
    exact f
theorem lain_all {m : Nat} (hm : BigM m) {hs : Array Int} (hn : hs.size ≤ m) : ∃ ow, SetTable.layClean m hs = some ow ∧ Lain m hs.toList ow := by
  obtain ⟨ow, f, L⟩ := lain_fold hm hs.toList [] _ (Lain.start m) (by simpa using hn)
  rw [List.nil_append] at f L
  refine ⟨ow, ?_, L⟩
  rw [layClean_eq]
  exact congrArg (Option.map Prod.fst) f
theorem Tbl.anew (t : SetTable) {hs : Array Int} {wanted M : Nat} (hw : SetTable.sizeAbove wanted - 1 = M) (hM : BigM M) (hn : hs.size ≤ M) :
    ∃ t' order, t.relaid hs wanted = some (t', order) ∧ order.toList.Perm (List.range hs.size) ∧ Tbl t' (order.toList.map fun i => hs.getD i 0) ∧ t'.mask = M ∧ t'.led = t.led ∧ t'.plain = t.plain := by
  obtain ⟨ow, e, L⟩ := lain_all hM hn
  have in_live : ∀ {j k : Nat}, (j, k) ∈ liveOf M ow ↔ j ≤ M ∧ oAt ow j = some k := fun {j k} => mem_live L.size
  have rise := ris_live (fun j => ow.getD j none) (List.range (M + 1)) (by
    unfold Ris
    first | exact List.pairwise_lt_range | exact List.pairwise_lt_range _)
  have rs : Ris ((liveOf M ow).map (·.1)) := rise.1
  have nd1 : ((liveOf M ow).map (·.1)).Nodup := rs.imp fun h => Nat.ne_of_lt h
  have count : (liveOf M ow).length = hs.size := by
    obtain ⟨us, u1, u2⟩ := L.used
    have le := nat_nodup_len _ us nd1 fun x hx => by
      obtain ⟨⟨y, k⟩, hq, rfl⟩ := List.mem_map.mp hx
      obtain ⟨a, b⟩ := in_live.mp hq
      exact u2 y a (by rw [b]; simp)
    have ge := nat_nodup_len (List.range hs.size) ((liveOf M ow).map (·.2)) List.nodup_range fun k hk => by
      obtain ⟨j, a, b⟩ := L.each k (by rw [Array.length_toList]; exact List.mem_range.mp hk)
      exact List.mem_map.mpr ⟨_, in_live.mpr ⟨a, b⟩, rfl⟩
    rw [List.length_map, u1] at le
    have sz : hs.toList.length = hs.size := rfl
    rw [List.length_map, List.length_range] at ge
    omega
  refine ⟨tabOf t M ow, ((liveOf M ow).map (·.2)).toArray, ?_, ?_, ⟨rs, rfl, ?_, hM, fun x hx => ?_, fun i h j h1 h2 => ?_⟩, rfl, rfl, rfl⟩
  · rw [relaid_eq, hw, e]
    rfl
  · exact perm_range hs.size _ (by show ((liveOf M ow).map (·.2)).length = _; rw [List.length_map, count]) fun k hk => by
      obtain ⟨j, a, b⟩ := L.each k (by rw [Array.length_toList]; exact hk)
      exact List.mem_map.mpr ⟨(j, k), in_live.mpr ⟨a, b⟩, rfl⟩
  · show ((liveOf M ow).map (·.1)).length = _
    simp
  · have : x ∈ List.range (M + 1) := rise.2 x hx
    rw [List.mem_range] at this
    show x ≤ M
    omega
  · replace h1 : (((liveOf M ow).map (·.2)).map fun i => hs.getD i 0)[i]? = some h := h1
    replace h2 : ((liveOf M ow).map (·.1))[i]? = some j := h2
    simp only [List.getElem?_map] at h1 h2
    cases q : (liveOf M ow)[i]? with
    | none => rw [q] at h2; cases h2
    | some z =>
      obtain ⟨y, k⟩ := z
      rw [q] at h1 h2
      cases h2
      cases h1
      obtain ⟨a, b⟩ := in_live.mp (List.mem_of_getElem? q)
      obtain ⟨g, K, g1, g2, g3⟩ := L.slot y k a b
      have eg : hs.getD k 0 = g := by rw [Array.getD_eq_getD_getElem?, ← Array.getElem?_toList, g1]; rfl
      show ∃ c, way M (hs.getD k 0) c = y ∧ ∀ l, l < c → way M (hs.getD k 0) l ∈ (liveOf M ow).map (·.1)
      rw [eg]
      refine ⟨K, g2, fun l hl => ?_⟩
      cases z : oAt ow (way M g l) with
      | none => exact absurd z (g3 l hl)
      | some k2 => exact List.mem_map.mpr ⟨(_, k2), in_live.mpr ⟨way_in, z⟩, rfl⟩
end DV

/-! Sets of nested tuples of numbers, up to four thousand. -/
namespace DV
open PySem PySem.Spec PyProof.Rows L2

mutual
def noTx : NestedKey → Bool
  | .text _ => false
  | .tup ks => noTxs ks
  | _ => true
def noTxs : List NestedKey → Bool
  | [] => true
  | k :: ks => noTx k && noTxs ks
end
/-- at a stands the key k -/
structure KeyAt (h : Heap) (k : NestedKey) (a : Addr) : Prop where
  is : NestedIs h k (.ref a)
  deep : k.depth ≤ 8
  plain : noTx k = true
section
variable {P : Program} {w : World} {A : Around} {E : Value → Shared → Prop} {s : Shared}
def OffAt (P : Program) (w : World) (n : Nat) (s : Shared) (v : Value) : Prop := ∀ A E Q, Q false s → wpAny (model P w) A (ofAClassStatement n v) Q E s
def ByvAt (P : Program) (w : World) (n : Nat) (s : Shared) (v : Value) : Prop := ∀ A E Q, Q true s → wpAny (model P w) A (hashByValue n v) Q E s
theorem off_tup {n : Nat} {a : Addr} {o : Obj} {vs : Array Value} {m : Nat} (hg : s.heap.get? a = some o) (hc : o.cls = .type "tuple") (hd : o.data = .seq vs m) (each : ∀ v ∈ vs.toList, OffAt P w n s v) : OffAt P w (n + 1) s (.ref a) := fun A E Q q => by
  unfold ofAClassStatement
  refine wpAny_bind (wpAny_typeOf (T := "tuple") ⟨o, hg, hc⟩ ?_)
  have tt : ("tuple" == "tuple") = true := by decide
  dsimp only
  simp only [tt, if_true]
  refine wpAny_bind ?_
  refine wpAny_pure ?_
  simp only [Bool.not_true, Bool.false_eq_true, if_false]
  show wpAny _ _ (seqItems? (.ref a) >>= _) _ _ s
  refine wpAny_bind (wpAny_seqItems hg hd ?_)
  dsimp only
  refine wpAny_bind ?_
  show wpAny _ _ (forIn vs _ _) _ _ s
  rw [← Array.forIn_toList]
  refine wpAny_forIn_list _ (fun rest r t => (r.1 = none ∧ t = s) ∧ ∀ v ∈ rest, OffAt P w n s v) _ ?_ ?_ _ _ ⟨⟨rfl, rfl⟩, each⟩
  · rintro v rest r t ⟨⟨hr, rfl⟩, each⟩
    refine wpAny_bind (each v List.mem_cons_self _ _ _ ?_)
    simp only [Bool.false_eq_true, if_false]
    exact wpAny_pure ⟨⟨rfl, rfl⟩, fun u hu => each u (List.mem_cons_of_mem _ hu)⟩
  · rintro ⟨r1, r2⟩ t ⟨⟨hr, rfl⟩, _⟩
    replace hr : r1 = none := hr
    subst hr
    exact wpAny_pure q
theorem byv_tup {n : Nat} {a : Addr} {o : Obj} {vs : Array Value} {m : Nat} (hg : s.heap.get? a = some o) (hc : o.cls = .type "tuple") (hd : o.data = .seq vs m) (each : ∀ v ∈ vs.toList, ByvAt P w n s v) : ByvAt P w (n + 1) s (.ref a) := fun A E Q q => by
  unfold hashByValue
  refine wpAny_bind (wpAny_specialOf ⟨o, hg, hc⟩ F.slot_tuple_hash.lookup ?_)
  show wpAny _ _ (seqItems? (.ref a) >>= _) _ _ s
  refine wpAny_bind (wpAny_seqItems hg hd (wpAny_bind ?_))
  show wpAny _ _ (forIn vs _ _) _ _ s
  rw [← Array.forIn_toList]
  refine wpAny_forIn_list _ (fun rest r t => (r.1 = none ∧ t = s) ∧ ∀ v ∈ rest, ByvAt P w n s v) _ ?_ ?_ _ _ ⟨⟨rfl, rfl⟩, each⟩
  · rintro v rest r t ⟨⟨hr, rfl⟩, each⟩
    refine wpAny_bind (each v List.mem_cons_self _ _ _ ?_)
    simp only [Bool.not_true, Bool.false_eq_true, if_false]
    exact wpAny_pure ⟨⟨rfl, rfl⟩, fun u hu => each u (List.mem_cons_of_mem _ hu)⟩
  · rintro ⟨r1, r2⟩ t ⟨⟨hr, rfl⟩, _⟩
    replace hr : r1 = none := hr
    subst hr
    exact wpAny_pure q
theorem off_flat {n : Nat} {v : Value} (h : ∀ a, v ≠ .ref a) : OffAt P w n s v := fun A E Q q => by
  have e : ofAClassStatement n v = pure false := by
    cases v <;> first | (cases n <;> rfl) | exact absurd rfl (h _)
  rw [e]
  exact wpAny_pure q
mutual
theorem off_key : ∀ (k : NestedKey) (v : Value) (n : Nat), NestedIs s.heap k v → k.depth ≤ n → OffAt P w n s v
  | .none, _, n, x, _ => by cases x; exact off_flat fun _ => nofun
  | .num i, _, n, x, _ => by cases x <;> exact off_flat fun _ => nofun
  | .text y, _, n, x, _ => by cases x; exact off_flat fun _ => nofun
  | .tup ks, _, n, x, hn => by
    cases x with
    | tup hg hc hd hk =>
      simp only [NestedKey.depth] at hn
      cases n with
      | zero => omega
      | succ n => exact off_tup hg hc hd (off_keys ks _ n hk (by omega))
theorem off_keys : ∀ (ks : List NestedKey) (vs : List Value) (n : Nat), NestedAll s.heap ks vs → NestedKey.depthAll ks ≤ n → ∀ v ∈ vs, OffAt P w n s v
  | [], _, n, x, _, v, hv => by cases x; cases hv
  | k :: ks, _, n, x, hn, v, hv => by
    cases x with
    | cons x1 x2 =>
      simp only [NestedKey.depthAll] at hn
      rcases List.mem_cons.mp hv with e | hv
      · rw [e]; exact off_key k _ n x1 (by omega)
      · exact off_keys ks _ n x2 (by omega) v hv
end
mutual
theorem byv_key : ∀ (k : NestedKey) (v : Value) (n : Nat), NestedIs s.heap k v → k.depth ≤ n → noTx k = true → ByvAt P w n s v
  | .none, _, n, x, _, _ => by
    cases x
    intro A E Q q
    have e : hashByValue n .none = pure true := by cases n <;> rfl
    rw [e]; exact wpAny_pure q
  | .num i, _, n, x, _, _ => by
    intro A E Q q
    cases x with
    | bool h => rename_i b; have e : hashByValue n (.bool b) = pure true := by cases n <;> rfl
                rw [e]; exact wpAny_pure q
    | int i t => have e : hashByValue n (.int i t) = pure true := by cases n <;> rfl
                 rw [e]; exact wpAny_pure q
  | .text y, _, n, x, _, z => by simp [noTx] at z
  | .tup ks, _, n, x, hn, z => by
    cases x with
    | tup hg hc hd hk =>
      simp only [NestedKey.depth] at hn
      simp only [noTx] at z
      cases n with
      | zero => omega
      | succ n => exact byv_tup hg hc hd (byv_keys ks _ n hk (by omega) z)
theorem byv_keys : ∀ (ks : List NestedKey) (vs : List Value) (n : Nat), NestedAll s.heap ks vs → NestedKey.depthAll ks ≤ n → noTxs ks = true → ∀ v ∈ vs, ByvAt P w n s v
  | [], _, n, x, _, _, v, hv => by cases x; cases hv
  | k :: ks, _, n, x, hn, z, v, hv => by
    cases x with
    | cons x1 x2 =>
      simp only [NestedKey.depthAll] at hn
      simp only [noTxs, Bool.and_eq_true] at z
      rcases List.mem_cons.mp hv with e | hv
      · rw [e]; exact byv_key k _ n x1 (by omega) z.1
      · exact byv_keys ks _ n x2 (by omega) z.2 v hv
end
/-- a search among such keys shows nothing -/
theorem unseen {k : NestedKey} {b : Addr} {Q : Bool → Shared → Prop} (hk : KeyAt s.heap k b) {ys : List Value} (hy : ∀ y ∈ ys, ∃ k' c, y = Value.ref c ∧ KeyAt s.heap k' c) (q : Q false s) : wpAny (model P w) A (searchCouldBeSeen (.ref b) ys) Q E s := by
  unfold searchCouldBeSeen
  refine wpAny_bind (wpAny_forIn_list _ (fun rest r t => (r.1 = none ∧ t = s) ∧ ∀ y ∈ rest, ∃ k' c, y = Value.ref c ∧ KeyAt s.heap k' c) _ ?_ ?_ _ _ ⟨⟨rfl, rfl⟩, hy⟩)
  · rintro v rest r t ⟨⟨hr, rfl⟩, all⟩
    obtain ⟨k', c, rfl, hc⟩ := all v List.mem_cons_self
    have next : ∀ y ∈ rest, ∃ k' c, y = Value.ref c ∧ KeyAt t.heap k' c := fun u hu => all u (List.mem_cons_of_mem _ hu)
    dsimp only
    by_cases hv : (b == c || (carriedByValue (.ref b) && carriedByValue (.ref c))) = true
    · exact wp_if_pos hv (wpAny_pure ⟨⟨rfl, rfl⟩, next⟩)
    · refine wp_if_neg hv (wpAny_bind (quiet_key k _ 8 t hk.is hk.deep _ _ _ ?_))
      simp only [Bool.not_true, Bool.false_eq_true, if_false]
      refine wpAny_bind (quiet_key k' _ 8 t hc.is hc.deep _ _ _ ?_)
      simp only [Bool.not_true, Bool.false_eq_true, if_false]
      refine wpAny_bind (off_key k _ 8 hk.is hk.deep _ _ _ ?_)
      simp only [Bool.false_eq_true, if_false]
      refine wpAny_bind (off_key k' _ 8 hc.is hc.deep _ _ _ ?_)
      simp only [Bool.false_eq_true, if_false]
      exact wpAny_pure ⟨⟨rfl, rfl⟩, next⟩
  · rintro ⟨r1, r2⟩ t ⟨⟨hr, rfl⟩, _⟩
    replace hr : r1 = none := hr
    subst hr
    exact wpAny_pure q
theorem KeyAt.but {h h' : Heap} {k : NestedKey} {a b : Addr} {o : Obj} {es : Array (Int × Value)} {ep : Nat} {t : SetTable} (hk : KeyAt h k b) (ho : h.get? a = some o) (hd : o.data = .set es ep t) (sb : Heap.SameBut a h h') : KeyAt h' k b := by
  refine ⟨NestedIs.at (fun c oc vs n e ed => ?_) _ _ hk.is, hk.deep, hk.plain⟩
  refine (sb.2 c fun z => ?_).trans e
  subst z
  rw [ho] at e
  cases e
  rw [hd] at ed
  cases ed
end

/-! ### the set -/
abbrev nh (w : World) (k : NestedKey) : Int := NestedKey.hash w k
def rowsN (w : World) (L : List (Addr × NestedKey)) : List (Int × Value) := L.map fun p => (nh w p.2, Value.ref p.1)
structure SetNs (w : World) (h : Heap) (a : Addr) (L : List (Addr × NestedKey)) (es : Array (Int × Value)) (ep : Nat) (t : SetTable) : Prop where
  ob : ∃ o, h.get? a = some o ∧ o.ExactSet ∧ o.data = .set es ep t
  rows : es.toList = rowsN w L
  tab : Tbl t (L.map fun p => nh w p.2)
  nd : (L.map (·.2)).Nodup
  key : ∀ p ∈ L, KeyAt h p.2 p.1
  plain : t.plain = true
  led : w.params.followText "set-order" = true ∨ t.led = true
  room : L.length * 5 < t.mask * 3
  few : L.length ≤ 4000
section
variable {P : Program} {w : World} {A : Around} {E : Value → Shared → Prop} {s : Shared} {a : Addr} {L : List (Addr × NestedKey)} {es : Array (Int × Value)} {ep : Nat} {t : SetTable}
theorem rowsN_size (h : es.toList = rowsN w L) : es.size = L.length := by
  have e := congrArg List.length h
  unfold rowsN at e
  rw [List.length_map] at e
  exact e
theorem rowsN_at (h : es.toList = rowsN w L) {i : Nat} {p : Addr × NestedKey} (e : L[i]? = some p) : es[i]? = some (nh w p.2, Value.ref p.1) := by
  rw [← Array.getElem?_toList, h]
  unfold rowsN
  rw [List.getElem?_map, e]
  rfl
theorem SetNs.fit (R : SetNs w s.heap a L es ep t) : t.fits es.size = true := by
  have h1 := R.tab.many
  have h2 := rowsN_size R.rows
  have h3 := R.room
  rw [List.length_map] at h1
  unfold SetTable.fits SetTable.fill
  rw [R.tab.nodm, Bool.and_eq_true, beq_iff_eq, decide_eq_true_eq]
  refine ⟨by omega, ?_⟩
  show t.place.size + 0 ≤ t.mask
  omega
theorem SetNs.stay (R : SetNs w s.heap a L es ep t) : ¬t.gaveWay = true := by
  unfold SetTable.gaveWay
  rw [big_odd R.tab.big]
  decide
theorem nth_plain (m : Nat) : ∀ (n : Nat) (p : SetTable.Probe), p.dummy = none → (nth m p n).dummy = none
  | 0, _, h => h
  | n + 1, p, h => nth_plain m n (adv m p) (by unfold adv; split <;> exact h)
/-- the way's c-th stand -/
abbrev stand (m : Nat) (g : Int) (c : Nat) : SetTable.Probe := nth m (runAt m (SetTable.bits g % (m + 1)) (SetTable.bits g)) c
theorem stand_on {m : Nat} {g : Int} {c q : Nat} : nth m (stand m g c) q = stand m g (c + q) := (nth_add m c _ q).symm
/-- the search from the c-th stand on -/
theorem look_from (R : SetNs w s.heap a L es ep t) {x : Addr} {k : NestedKey} (hx : KeyAt s.heap k x) (hu : A.units + 8 < cLine) {K : Nat} (hKf : K < 10 * SetTable.turns t.mask) (hK : way t.mask (nh w k) K ∉ t.place.toList) (hb : ∀ c, c < K → way t.mask (nh w k) c ∈ t.place.toList)
    {Q : SetFound → Shared → Prop} (yes : k ∈ L.map (·.2) → Q (.there none) s) (no : k ∉ L.map (·.2) → Q (.free (way t.mask (nh w k) K) false) s) :
    ∀ (f c : Nat) (st : Option SetTable.Probe), st.getD (t.probeStart (nh w k)) = stand t.mask (nh w k) c → c ≤ K → K - c < f →
      (∀ (i : Nat) p, L[i]? = some p → p.2 = k → ∃ c', (c ≤ c' ∧ c' < K) ∧ t.place.toList[i]? = some (way t.mask (nh w k) c')) → wpAny (model P w) A (setSearchFrom a (.ref x) (nh w k) true f st) Q E s
  | 0, c, st, _, _, hf, _ => absurd hf (Nat.not_lt_zero _)
  | f + 1, c, st, hst, hc, hf, hre => by
    obtain ⟨o, ho, hex, hd⟩ := R.ob
    rw [setSearchFrom_succ]
    refine wpAny_bind (wpAny_setState_of ho hd R.fit ?_)
    dsimp only
    refine wp_if_neg R.stay ?_
    try refine wpAny_bind (wpAny_pure ?_)
    have at_q : ∀ q, (nth t.mask (stand t.mask (nh w k) c) q).j = way t.mask (nh w k) (c + q) := fun q => congrArg SetTable.Probe.j stand_on
    have spec := go_spec t R.tab.up R.tab.nodm (fun i => (es[i]?.map (·.1)).getD 0) (nh w k) (10 * SetTable.turns t.mask) (K - c) (stand t.mask (nh w k) c) (nth_plain _ _ _ rfl) (by omega)
      (fun q hq => by rw [at_q]; exact hb _ (by omega)) (by rw [at_q, show c + (K - c) = K by omega]; exact hK)
    have hash_at : ∀ (i : Nat) p, L[i]? = some p → (fun i => (es[i]?.map (·.1)).getD 0) i = nh w p.2 := fun i p e => by
      show (es[i]?.map (·.1)).getD 0 = _
      rw [rowsN_at R.rows e]
      rfl
    have not_yet : ∀ {q : Nat}, (∀ l i, l < q → t.place.toList[i]? = some (nth t.mask (stand t.mask (nh w k) c) l).j → (fun i : Nat => (es[i]?.map (fun z : Int × Value => z.1)).getD (0 : Int)) i ≠ nh w k) → ∀ (i : Nat) p, L[i]? = some p → p.2 = k → ∀ c', c ≤ c' → t.place.toList[i]? = some (way t.mask (nh w k) c') → c + q ≤ c' :=
      fun {q} hno i p e ek c' le e' => Nat.le_of_not_lt fun lt => hno (c' - c) i (by omega) (by rw [at_q, show c + (c' - c) = c' by omega]; exact e') (by rw [hash_at i p e, ek])
    have pr : t.probe (fun i => (es[i]?.map (·.1)).getD 0) (nh w k) (st.getD (t.probeStart (nh w k))) = SetTable.probe.go t (fun i => (es[i]?.map (·.1)).getD 0) (nh w k) (10 * SetTable.turns t.mask) (stand t.mask (nh w k) c) := by rw [hst]; rfl
    rw [pr]
    rcases spec with ⟨q, i, hq, hi, hh, hno, e⟩ | ⟨hno, e⟩
    · rw [e, at_q, stand_on]
      dsimp only
      rw [at_q] at hi
      have il : i < L.length := by
        have h1 := (List.getElem?_eq_some_iff.mp hi).1
        have h2 := R.tab.len
        rw [List.length_map] at h2
        omega
      obtain ⟨p, hp⟩ : ∃ p, L[i]? = some p := ⟨_, List.getElem?_eq_getElem il⟩
      have pin : p ∈ L := List.mem_of_getElem? hp
      have kp := R.key p pin
      have live := slot_live R.tab.up hi
      have go_on : wpAny (model P w) A (searchRest a (.ref x) (nh w k) true f es t (way t.mask (nh w k) (c + q)) i (stand t.mask (nh w k) (c + (q + 1)))) Q E s := by
        unfold searchRest
        rw [rowsN_at R.rows hp]
        dsimp only
        refine wpAny_bind (wpAny_holding ((nestedKind P w).eqBool hu ⟨kp.is, kp.deep⟩ ⟨hx.is, hx.deep⟩ (wpAny_bind (wpAny_setState_of ho hd R.fit ?_))))
        dsimp only
        by_cases ek : p.2 = k
        · refine wp_if_pos (by simp [ek]) (wpAny_pure (yes (List.mem_map.mpr ⟨p, pin, ek⟩)))
        · refine wp_if_neg (by simp [ek]) ?_
          try refine wpAny_bind (wpAny_pure ?_)
          rw [sameMem]
          dsimp only
          simp only [if_true, live, rowsN_at R.rows hp]
          refine wpAny_bind (wpAny_isSame_ref_self (wpAny_bind (wpAny_pure ?_)))
          simp only [if_true]
          refine wp_if_neg (by simp [ek]) ?_
          refine look_from R hx hu hKf hK hb yes no f (c + (q + 1)) _ rfl (by omega) (by omega) fun i' p' e1 e2 => ?_
          obtain ⟨c', ⟨d1, d2⟩, d3⟩ := hre i' p' e1 e2
          refine ⟨c', ⟨?_, d2⟩, d3⟩
          have le := not_yet hno i' p' e1 e2 c' d1 d3
          rcases Nat.lt_or_eq_of_le le with lt | eq
          · omega
          · subst eq
            have live' := slot_live R.tab.up d3
            rw [live] at live'
            cases live'
            rw [hp] at e1
            cases e1
            exact absurd e2 ek
      by_cases hl : t.led = true
      · refine wp_if_neg (by simp [hl]) ?_
        try refine wpAny_bind (wpAny_pure ?_)
        exact go_on
      · refine wp_if_pos (by simp [hl]) (wpAny_bind (unseen hx (fun y hy => ?_) ?_))
        · obtain ⟨z, hz, ez⟩ := List.mem_map.mp hy
          have z1 : z ∈ es.toList := by
            have : z ∈ es ∧ z.1 = nh w k := by simpa using hz
            simpa using this.1
          rw [R.rows] at z1
          obtain ⟨p2, h2, rfl⟩ := List.mem_map.mp z1
          exact ⟨p2.2, p2.1, ez.symm, R.key p2 h2⟩
        · refine wp_if_neg (by decide) ?_
          try refine wpAny_bind (wpAny_pure ?_)
          exact go_on
    · rw [e, at_q, show c + (K - c) = K by omega]
      dsimp only
      refine wpAny_pure (no fun m => ?_)
      obtain ⟨p0, h0, ek⟩ := List.mem_map.mp m
      obtain ⟨i0, l0, e0⟩ := List.getElem_of_mem h0
      have h00 : L[i0]? = some p0 := by rw [List.getElem?_eq_getElem l0, e0]
      obtain ⟨c', ⟨d1, d2⟩, d3⟩ := hre i0 p0 h00 ek
      have := not_yet hno i0 p0 h00 ek c' d1 d3
      omega
theorem look_at (R : SetNs w s.heap a L es ep t) {x : Addr} {k : NestedKey} (hx : KeyAt s.heap k x) (hu : A.units + 8 < cLine) {Q : SetFound → Shared → Prop} (yes : k ∈ L.map (·.2) → Q (.there none) s)
    (no : ∀ K, k ∉ L.map (·.2) → way t.mask (nh w k) K ∉ t.place.toList → (∀ c, c < K → way t.mask (nh w k) c ∈ t.place.toList) → Q (.free (way t.mask (nh w k) K) false) s) : wpAny (model P w) A (setSearch a (.ref x) (nh w k) true) Q E s := by
  have rm := R.room
  have tl := R.tab.len
  rw [List.length_map] at tl
  obtain ⟨K, h1, h2, h3⟩ := slot_out R.tab.big (pl := t.place.toList) (by omega) (nh w k)
  have small : 10 * SetTable.turns t.mask ≤ 82060 := by
    unfold SetTable.turns
    rcases bigM_cases R.tab.big with e | e | e | e | e | e <;> omega
  unfold setSearch
  refine look_from R hx hu h1 h2 h3 yes (fun n => no K n h2 h3) 100000 0 none rfl (Nat.zero_le _) (by omega) fun i p e ek => ?_
  have ih : (L.map fun p => nh w p.2)[i]? = some (nh w k) := by rw [List.getElem?_map, e, ← ek]; rfl
  have il : i < t.place.toList.length := by
    have := (List.getElem?_eq_some_iff.mp e).1
    omega
  obtain ⟨c', c1, c2⟩ := R.tab.ahead h2 ih (List.getElem?_eq_getElem il)
  exact ⟨c', ⟨Nat.zero_le _, c1⟩, by rw [List.getElem?_eq_getElem il, c2]⟩
end
end DV

/-! Adding to such a set. -/
namespace DV
open PySem PySem.Spec PyProof.Rows L2

section
variable {P : Program} {w : World} {A : Around} {E : Value → Shared → Prop} {s : Shared} {a : Addr} {L : List (Addr × NestedKey)} {es : Array (Int × Value)} {ep : Nat} {t : SetTable}
theorem some_at {α : Type} (l : List α) : (List.range l.length).filterMap (fun i => l[i]?) = l := by
  have part : ∀ n, n ≤ l.length → (List.range n).filterMap (fun i => l[i]?) = l.take n := by
    intro n
    induction n with
    | zero => intro _; rfl
    | succ n ih =>
      intro h
      have e := List.getElem?_eq_getElem (show n < l.length from h)
      rw [List.range_succ, List.filterMap_append, ih (by omega), List.take_succ, e, List.filterMap_cons_some e]
      rfl
  rw [part _ (Nat.le_refl _), List.take_length]
theorem rowsN_order (hr : es.toList = rowsN w L) {order : Array Nat} (hp : order.toList.Perm (List.range L.length)) :
    ∃ M, (order.filterMap (es[·]?)).toList = rowsN w M ∧ M.Perm L ∧ (M.map fun p => nh w p.2) = order.toList.map fun i => (es.map (·.1)).getD i 0 := by
  have each : ∀ l : List Nat, (∀ i ∈ l, i < L.length) → l.filterMap (fun i => es[i]?) = rowsN w (l.filterMap fun i => L[i]?) ∧ ((l.filterMap fun i => L[i]?).map fun p => nh w p.2) = l.map fun i => (es.map (·.1)).getD i 0 := by
    intro l
    induction l with
    | nil => intro _; exact ⟨rfl, rfl⟩
    | cons i l ih =>
      intro h
      obtain ⟨r1, r2⟩ := ih fun j hj => h j (List.mem_cons_of_mem _ hj)
      have e := List.getElem?_eq_getElem (h i List.mem_cons_self)
      have e2 := rowsN_at hr e
      have e3 : (es.map (·.1)).getD i 0 = nh w (L[i]'(h i List.mem_cons_self)).2 := by
        rw [Array.getD_eq_getD_getElem?, Array.getElem?_map, e2]
        rfl
      rw [List.filterMap_cons_some e2, List.filterMap_cons_some e, r1, List.map_cons, List.map_cons, r2, e3]
      exact ⟨rfl, rfl⟩
  obtain ⟨r1, r2⟩ := each order.toList fun i hi => List.mem_range.mp (hp.mem_iff.mp hi)
  refine ⟨order.toList.filterMap fun i => L[i]?, by simpa using r1, ?_, r2⟩
  have := hp.filterMap fun i => L[i]?
  rwa [some_at] at this
theorem larger {o : Obj} (ho : s.heap.get? a = some o) (hex : o.ExactSet) (hd : o.data = .set es ep t) (hr : es.toList = rowsN w L) (hsz : t.place.size = es.size) (hdm : t.dummies = #[]) (hfl : es.size ≤ t.mask) (nd : (L.map (·.2)).Nodup)
    (key : ∀ p ∈ L, KeyAt s.heap p.2 p.1) (pl : t.plain = true) (ld : w.params.followText "set-order" = true ∨ t.led = true) (few : L.length ≤ 4000) {wanted M : Nat} (hw : SetTable.sizeAbove wanted = M + 1) (hM : BigM M) (hn : L.length * 5 < M * 3)
    {Q : Unit → Shared → Prop} (q : ∀ h' L' es' ep' t', Heap.SameBut a s.heap h' → SetNs w h' a L' es' ep' t' → L'.Perm L → Q () { s with heap := h' }) : wpAny (model P w) A (setRelay a wanted) Q E s := by
  have sl := rowsN_size hr
  have fit : t.fits es.size = true := by
    unfold SetTable.fits SetTable.fill
    rw [hdm, Bool.and_eq_true, beq_iff_eq, decide_eq_true_eq]
    refine ⟨hsz, ?_⟩
    show t.place.size + 0 ≤ t.mask
    omega
  have mle : M ≤ 8191 := by rcases bigM_cases hM with e | e | e | e | e | e <;> omega
  obtain ⟨t', order, e, hp, T, em, el, epl⟩ := Tbl.anew t (hs := es.map (·.1)) (wanted := wanted) (M := M) (by rw [hw]; rfl) hM (by rw [Array.size_map, sl]; omega)
  rw [Array.size_map, sl] at hp
  obtain ⟨L2, r1, r2, r3⟩ := rowsN_order hr hp
  rw [← r3] at T
  have all : (order.filterMap (es[·]?)).size = es.size := by rw [rowsN_size r1, r2.length_eq, sl]
  rw [setRelay_eq]
  refine wpAny_bind (wpAny_setState_of ho hd fit ?_)
  dsimp only
  refine wp_if_neg (by rw [sizeLine_eq, hw]; omega) ?_
  try refine wpAny_bind (wpAny_pure ?_)
  rw [e]
  dsimp only
  refine wpAny_bind (wp_if_neg (by rw [all]; simp) ?_)
  try refine wpAny_bind (wpAny_pure ?_)
  refine wpAny_pure ?_
  dsimp only
  refine wpAny_storeSet_of ho hd ?_ (by rw [all, sl, sizeLine_eq]; omega)
  have sb : Heap.SameBut a s.heap (s.heap.update a (Obj.putSet (order.filterMap (es[·]?)) t')) := Heap.SameBut.update ..
  refine q _ L2 _ (ep + 1) t' sb ⟨⟨_, store_at ho hd, ⟨hex.1, hex.2.1, hex.2.2⟩, rfl⟩, r1, T, (r2.map (·.2)).nodup_iff.mpr nd, fun p hp => (key p (r2.mem_iff.mp hp)).but ho hd sb, epl.trans pl, by rw [el]; exact ld, ?_, ?_⟩ r2
  · rw [r2.length_eq, em]; exact hn
  · rw [r2.length_eq]; exact few
theorem sizes4 : SetTable.sizeAbove (SetTable.grown 5) = 31 + 1 ∧ SetTable.sizeAbove (SetTable.grown 19) = 127 + 1 ∧ SetTable.sizeAbove (SetTable.grown 77) = 511 + 1 ∧ SetTable.sizeAbove (SetTable.grown 307) = 2047 + 1 ∧ SetTable.sizeAbove (SetTable.grown 1229) = 8191 + 1 := by decide +kernel
theorem put_in (R : SetNs w s.heap a L es ep t) {x : Addr} {k : NestedKey} (hx : KeyAt s.heap k x) (hu : A.units + 8 < cLine) (few : L.length + 1 ≤ 4000) {Q : Bool → Shared → Prop}
    (q : ∀ b h' L' es' ep' t', Heap.SameBut a s.heap h' → SetNs w h' a L' es' ep' t' → (k ∈ L.map (·.2) → L' = L) → (k ∉ L.map (·.2) → L'.Perm ((x, k) :: L)) → Q b { s with heap := h' }) :
    wpAny (model P w) A (setAddHashed a (.ref x) (nh w k)) Q E s := by
  obtain ⟨o, ho, hex, hd⟩ := R.ob
  have sl := rowsN_size R.rows
  have rm := R.room
  unfold setAddHashed
  refine wpAny_holding ?_
  rw [show (100000 : Nat) = 99999 + 1 from rfl, setAddHashedIn_succ]
  refine wpAny_bind (wpAny_setState_of ho hd R.fit ?_)
  dsimp only
  refine wp_if_neg (by simp [byScan, Value.scannable]) ?_
  try refine wpAny_bind (wpAny_pure ?_)
  refine wpAny_bind (look_at R hx hu (fun m => ?_) fun K m hK hb => ?_)
  · dsimp only
    exact wpAny_pure (q false s.heap L es ep t (Heap.SameBut.refl a s.heap) R (fun _ => rfl) fun z => absurd m z)
  · dsimp only
    refine wpAny_bind (wpAny_setState_of ho hd R.fit ?_)
    dsimp only
    obtain ⟨p, hp⟩ : ∃ p, p = SetTable.below t.place (way t.mask (nh w k) K) := ⟨_, rfl⟩
    obtain ⟨q1, q2, q3, q4, q5, q6, q7⟩ := R.tab.more hK hb hp
    have pl1 : (t.put (way t.mask (nh w k) K)).1.plain = true := q6.trans R.plain
    generalize t.put (way t.mask (nh w k) K) = pt at q1 q3 q4 q5 q6 q7 pl1 ⊢
    obtain ⟨t1, p'⟩ := pt
    dsimp only at q1 q3 q4 q5 q6 q7 pl1 ⊢
    subst q1
    first
      | (refine wpAny_bind ?_; refine wp_if_pos pl1 ?_; refine byv_key k _ 8 hx.is hx.deep hx.plain _ _ _ ?_)
      | refine wp_if_pos pl1 (wpAny_bind (byv_key k _ 8 hx.is hx.deep hx.plain _ _ _ ?_))
    simp only [if_true]
    rw [List.length_map] at q2 q7
    have rows1 : (SetTable.insertAt es p' (nh w k, Value.ref x)).toList = rowsN w (L.take p' ++ (x, k) :: L.drop p') := by
      rw [SetTable.toList_insertAt, R.rows]
      unfold rowsN
      rw [List.map_append, List.map_cons, List.map_take, List.map_drop]
    have pm : (L.take p' ++ (x, k) :: L.drop p').Perm ((x, k) :: L) := by
      have := (List.perm_middle (a := (x, k)) (l₁ := L.take p') (l₂ := L.drop p'))
      rwa [List.take_append_drop] at this
    have hashes : (L.take p' ++ (x, k) :: L.drop p').map (fun p => nh w p.2) = (L.map fun p => nh w p.2).take p' ++ nh w k :: (L.map fun p => nh w p.2).drop p' := by
      rw [List.map_append, List.map_cons, List.map_take, List.map_drop]
    rw [← hashes] at q3
    generalize SetTable.insertAt es p' (nh w k, Value.ref x) = es1 at rows1 ⊢
    generalize L.take p' ++ (x, k) :: L.drop p' = L1 at pm q3 rows1
    have len1 : L1.length = L.length + 1 := pm.length_eq
    have sl1 := rowsN_size rows1
    have nd1 : (L1.map (·.2)).Nodup := (pm.map (·.2)).nodup_iff.mpr (List.nodup_cons.mpr ⟨m, R.nd⟩)
    refine wpAny_bind (wpAny_storeSet_of ho hd ?_ (by rw [sl1, sizeLine_eq]; omega))
    have sb : Heap.SameBut a s.heap (s.heap.update a (Obj.putSet es1 t1)) := Heap.SameBut.update ..
    have ho1 := store_at (es' := es1) (t' := t1) ho hd
    generalize s.heap.update a (Obj.putSet es1 t1) = h1 at sb ho1 ⊢
    have key1 : ∀ p ∈ L1, KeyAt h1 p.2 p.1 := fun p hp => by
      rcases List.mem_cons.mp (pm.mem_iff.mp hp) with e | hp
      · rw [e]; exact hx.but ho hd sb
      · exact (R.key p hp).but ho hd sb
    have ld1 : w.params.followText "set-order" = true ∨ t1.led = true := by rw [q5]; exact R.led
    by_cases full : t1.tooFull = true
    · first
        | (refine wpAny_bind ?_; refine wp_if_pos (by simp [full]) ?_)
        | (refine wp_if_pos (by simp [full]) ?_; refine wpAny_bind ?_)
      have fl := full
      unfold SetTable.tooFull at fl
      rw [decide_eq_true_eq, q7, q4] at fl
      have many1 := q3.many
      rw [List.length_map, len1] at many1
      rw [sl]
      obtain ⟨M, hM, hw, hn⟩ : ∃ M, BigM M ∧ SetTable.sizeAbove (SetTable.grown (L.length + 1)) = M + 1 ∧ (L.length + 1) * 5 < M * 3 := by
        rcases bigM_cases R.tab.big with e | e | e | e | e | e
        · have : L.length = 4 := by rw [e] at fl rm; omega
          exact ⟨31, by unfold BigM; decide, by rw [this]; exact sizes4.1, by omega⟩
        · have : L.length = 18 := by rw [e] at fl rm; omega
          exact ⟨127, by unfold BigM; decide, by rw [this]; exact sizes4.2.1, by omega⟩
        · have : L.length = 76 := by rw [e] at fl rm; omega
          exact ⟨511, by unfold BigM; decide, by rw [this]; exact sizes4.2.2.1, by omega⟩
        · have : L.length = 306 := by rw [e] at fl rm; omega
          exact ⟨2047, by unfold BigM; decide, by rw [this]; exact sizes4.2.2.2.1, by omega⟩
        · have : L.length = 1228 := by rw [e] at fl rm; omega
          exact ⟨8191, by unfold BigM; decide, by rw [this]; exact sizes4.2.2.2.2, by omega⟩
        · rw [e] at fl
          omega
      refine larger (s := { s with heap := h1 }) ho1 ⟨hex.1, hex.2.1, hex.2.2⟩ rfl rows1 (by rw [many1, sl1, len1]) q3.nodm (by rw [sl1, q4, len1]; omega) nd1 key1 pl1 ld1 (by rw [len1]; exact few) hw hM (by rw [len1]; exact hn) ?_
      intro h2 L2 es2 ep2 t2 sb2 R2 pm2
      exact wpAny_pure (q true h2 L2 es2 ep2 t2 (sb.trans sb2) R2 (fun z => absurd z m) fun _ => pm2.trans pm)
    · first
        | refine wp_if_neg (by simp [full]) ?_
        | (refine wpAny_bind ?_; refine wp_if_neg (by simp [full]) ?_; refine wpAny_pure ?_)
      have fl := full
      unfold SetTable.tooFull at fl
      rw [decide_eq_true_eq, q7] at fl
      exact wpAny_pure (q true h1 L1 es1 (ep + 1) t1 sb ⟨⟨_, ho1, ⟨hex.1, hex.2.1, hex.2.2⟩, rfl⟩, rows1, q3, nd1, key1, pl1, ld1, by rw [len1]; omega, by rw [len1]; exact few⟩ (fun z => absurd z m) fun _ => pm)
theorem nset_fresh {h : Heap} (ho : h.get? a = some { cls := .type "set", dict := none, data := .set #[] 0 (.fresh 0 0 (!w.params.followText "set-order")) }) : SetNs w h a [] #[] 0 (.fresh 0 0 (!w.params.followText "set-order")) := by
  refine ⟨⟨_, ho, ⟨rfl, rfl, rfl⟩, rfl⟩, rfl, ⟨List.Pairwise.nil, rfl, rfl, by unfold BigM; exact List.mem_cons_self, (fun x hx => nomatch hx), (fun i h j hi => by simp at hi)⟩, List.nodup_nil, (fun p hp => nomatch hp), rfl, ?_, by show 0 * 5 < 7 * 3; decide, by decide⟩
  show _ ∨ (!w.params.followText "set-order") = true
  cases w.params.followText "set-order"
  · exact .inr rfl
  · exact .inl rfl
end
/-! ### over the abstract heap -/
/-- the set at a, but for its keys' objects -/
def SetN0 (w : World) (h : Heap) (a : Addr) (L : List (Addr × NestedKey)) : Prop := ∃ (es : Array (Int × Value)) (ep : Nat) (t : SetTable), (∃ o, h.get? a = some o ∧ o.ExactSet ∧ o.data = .set es ep t) ∧ es.toList = rowsN w L ∧ Tbl t (L.map fun p => nh w p.2) ∧
  (L.map (·.2)).Nodup ∧ t.plain = true ∧ (w.params.followText "set-order" = true ∨ t.led = true) ∧ L.length * 5 < t.mask * 3 ∧ L.length ≤ 4000
def SetNO (w : World) (a : Addr) (L : List (Addr × NestedKey)) : HO := .ext fun h => SetN0 w h a L
theorem SetNs.bare {w : World} {h : Heap} {a : Addr} {L : List (Addr × NestedKey)} {es : Array (Int × Value)} {ep : Nat} {t : SetTable} (R : SetNs w h a L es ep t) : SetN0 w h a L := ⟨es, ep, t, R.ob, R.rows, R.tab, R.nd, R.plain, R.led, R.room, R.few⟩
theorem SetN0.with {w : World} {h : Heap} {a : Addr} {L : List (Addr × NestedKey)} (R : SetN0 w h a L) (hk : ∀ p ∈ L, KeyAt h p.2 p.1) : ∃ es ep t, SetNs w h a L es ep t := by
  obtain ⟨es, ep, t, h1, h2, h3, h4, h5, h6, h7, h8⟩ := R
  exact ⟨es, ep, t, h1, h2, h3, h4, hk, h5, h6, h7, h8⟩
theorem setNO_ok {P : Program} {w : World} {H : Hp} {h : Heap} {a : Addr} {L : List (Addr × NestedKey)} (R : SetN0 w h a L) : ObjOk P w H h a (SetNO w a L) := by
  have ⟨es, ep, t, ⟨o, ho, _⟩, _⟩ := R
  refine ⟨R, ⟨o, ho⟩, fun h1 h2 p k => ?_⟩
  obtain ⟨es', ep', t', ⟨o', ho', r'⟩, q'⟩ := (show SetN0 w h1 a L from p)
  exact ⟨es', ep', t', ⟨o', k o' ho', r'⟩, q'⟩
section
variable {X : Cx} {pins : List (Addr × Obj)} {σ : L2.St} {H : Hp} {s : Shared}
theorem putN_ok {S t : Addr} {k : NestedKey} {L : List (Addr × NestedKey)} {E : Value → Shared → Prop} {Q : Value → Shared → Prop} (I : Inv X pins σ H s) (hu : X.A.units + 12 < cLine) (hS : H S = some (SetNO X.w S L)) (hk : ∀ p ∈ L, KeyAt s.heap p.2 p.1)
    (hx : KeyAt s.heap k t) (few : L.length + 1 ≤ 4000)
    (q : ∀ L' s', (k ∈ L.map (·.2) → L' = L) → (k ∉ L.map (·.2) → L'.Perm ((t, k) :: L)) → Inv X pins σ (upd H S (SetNO X.w S L')) s' → Q .none s') :
    wpAny (model X.prog X.w) X.A (call (.builtin "set.add") [.ref S, .ref t]) Q E s := by
  have R0 : SetN0 X.w s.heap S L := (I.hok S _ hS).1
  obtain ⟨es, ep, tb, R⟩ := R0.with hk
  obtain ⟨o, ho, hex, hd⟩ := id R.ob
  refine wpAny_call_entry F.slot_set_add ⟨o, ho, hex.1⟩ F.entry_set_add ?_ (F.args_set_add_2 _ _)
  unfold Builtin.«set.add» Builtin.Frozenset.oneOther
  simp only [List.isEmpty_nil, bind_assoc]
  unfold Builtin.Frozenset.addrOf setAdd
  refine wpAny_bind (wpAny_pure ?_)
  try dsimp only
  refine wpAny_bind (wpAny_pure ?_)
  try dsimp only
  refine wpAny_bind (wpAny_holding ?_)
  refine wpAny_bind ((nestedKind X.prog X.w).pyHash (A := X.A.in1) (show X.A.in1.units + 8 < cLine by simp only [Around.in1_units]; omega) ⟨hx.is, hx.deep⟩ ?_)
  refine put_in (s := { s with toks := s.toks + (nestedKind X.prog X.w).draws k }) R hx (by simp only [Around.in1_units]; omega) few fun b h' L' es' ep' t' sb R2 c1 c2 => ?_
  show wpAny _ _ (ret Value.none) _ _ _
  have he : ∃ u, h'.get? S = some u := by
    obtain ⟨u, e, _⟩ := R2.ob
    exact ⟨u, e⟩
  exact wpAny_pure ⟨_, rfl, q L' _ c1 c2 (I.write (e := S) (t' := s.toks + (nestedKind X.prog X.w).draws k) (by rw [hS]; trivial) (.inl rfl) (fun b u hb hu => (sb.2 b hb).trans hu) he (setNO_ok R2.bare))⟩
end
end DV

namespace DV
open PySem PySem.Spec PyProof.Rows L2 PySem.SeqAt

/-! ### {e for .. in ..}: sets of nested tuples of numbers, up to four thousand -/
mutual
theorem noTx_nk : ∀ d : D, noTx d.nk = true
  | .int i => by simp only [D.nk, noTx]
  | .tup ds => by simp only [D.nk, noTx]; exact noTx_nks ds
  | .non => by simp only [D.nk, noTx]
  | .bl _ => by simp only [D.nk, noTx]
  | .str _ => by simp only [D.nk, noTx]
  | .lst _ => by simp only [D.nk, noTx]
  | .dic _ => by simp only [D.nk, noTx]
  | .bag => by simp only [D.nk, noTx]
  | .scr => by simp only [D.nk, noTx]
theorem noTx_nks : ∀ ds : List D, noTxs (D.nks ds) = true
  | [] => by simp only [D.nks, noTxs]
  | d :: ds => by simp only [D.nks, noTxs]; rw [noTx_nk d, noTx_nks ds]; rfl
end
theorem keyD_at {X : Cx} {pins : List (Addr × Obj)} {σ : L2.St} {F H : Hp} {s : Shared} (I : Inv X pins σ H s) (sb : Sub F H) {t : Addr} {d : D} (r : Rp X.K F (.ref t) d) (k : d.kok = true) : KeyAt s.heap d.nk t :=
  ⟨nk_is I sb (kok_kin k) r rfl, kok_depth k, noTx_nk d⟩
theorem keyDs_at {X : Cx} {pins : List (Addr × Obj)} {σ : L2.St} {F H : Hp} {s : Shared} (I : Inv X pins σ H s) (sb : Sub F H) {L : List (Addr × NestedKey)} (h : ∀ p ∈ L, ∃ e, Rp X.K F (.ref p.1) e ∧ e.kok = true ∧ p.2 = e.nk) : ∀ p ∈ L, KeyAt s.heap p.2 p.1 := fun p hp => by
  obtain ⟨e, r, k, q⟩ := h p hp
  rw [q]
  exact keyD_at I sb r k
/-- the loop's promise -/
def tSetN (K : PySem.W.Frag) (P : Program) (w : World) (wi : TI) (g : TG) (tt : TT) (te : TE) (vs : List Nat) : TE := fun σ H Q => wi σ H fun J H1 => ∀ S, H1 S = none →
  ∃ W : Nat → Nat → Hp → Prop, (∃ m, W 0 m (upd H1 S (SetNO w S []))) ∧ ∀ i m H, W i m H →
    (J.stop i H ∧ Q (.ref S) H) ∨ (J.go i H ∧ ∃ Z : Hp → Prop, (∀ H', Z H' → ∃ n, n < m ∧ W (i + 1) n H') ∧
      ∀ x H', J.yld i H x H' → g x (wipe σ vs) H' fun σ2 H2 => wipe σ2 vs = wipe σ vs ∧ tt σ2 H2 fun b H3 =>
        if b = true then te σ2 H3 fun y H4 => ∃ F t d L, Sub F H4 ∧ y = .ref t ∧ Rp K F (.ref t) d ∧ d.kok = true ∧ H4 S = some (SetNO w S L) ∧ (∀ p ∈ L, ∃ e, Rp K F (.ref p.1) e ∧ e.kok = true ∧ p.2 = e.nk) ∧
          L.length + 1 ≤ 4000 ∧ ∀ L', (d.nk ∈ L.map (·.2) → L' = L) → (d.nk ∉ L.map (·.2) → L'.Perm ((t, d.nk) :: L)) → Z (upd H4 S (SetNO w S L'))
        else Z H3)
section
variable {X : Cx} {elt tg iter : Expr} {ifs : List Expr} {scope : Scope} {own : List (Str × Nat)} {pos : Pos}
theorem pe_setN {wi : TI} {g : TG} {tt : TT} {te : TE} (hc : X.calm = true) (hu : X.A.units + 12 < cLine) (hN : X.N.Nodup) (hi : PI X tg iter wi) (ok : BlkOk X.N X.env.scope scope own)
    (hg : ∀ (s : Shared) (H : Hp) (C : Addr) (cl : List (Str × Addr)) (fp : List Addr),
      PG (X.blk s H scope (compEnvC scope cl C X.env) fp) tg g)
    (ht : ∀ (s : Shared) (H : Hp) (C : Addr) (cl : List (Str × Addr)) (fp : List Addr),
      PTs (X.blk s H scope (compEnvC scope cl C X.env) fp) ifs tt)
    (he : ∀ (s : Shared) (H : Hp) (C : Addr) (cl : List (Str × Addr)) (fp : List Addr),
      PE (X.blk s H scope (compEnvC scope cl C X.env) fp) elt te)
    (hs : ∀ x, foldedSetIterable iter X.env x = pure x := by intro _; rfl) :
    PE X (.SetComp elt [⟨tg, iter, ifs, 0⟩] scope pos) (tSetN X.K X.prog X.w wi g tt te (own.map (·.2))) := by
  refine ⟨fun pins s σ H Q I h => ?_⟩
  rw [PpSet.eval_SetComp]
  have hfr : ∀ y ∈ scope.names, y.2 = .free → ∃ c, X.env.cells.lookup y.1 = some c := fun y hy e =>
    (ok.free y hy e).elim (fun k => I.ok.has _ (.inl k)) fun k => I.ok.has _ (.inr k)
  refine wpAny_comprehension_free (use := none) rfl hs (closure_ok hfr) ok.kind (fun y hy e => by rw [ok.uniq y hy, e]) ?_
  refine thn (hi.run pins s σ H _ I h) fun xv s1 hx => thn hx fun itv s2 h2 => ?_
  obtain ⟨it, fp, tn, J, H2, rfl, I2, T, st2, f2, q⟩ := h2
  refine PpSet.newSet_ok (newEnv_comp ?_)
  generalize eS : s2.heap.objs.size = S
  have nS : H2 S = none := I2.hok.fresh (Nat.le_of_eq eS)
  obtain ⟨W, ⟨m0, w0⟩, turn⟩ := q S nS
  generalize es3 : ({ s2 with heap := s2.heap.push { cls := .type "set", dict := none, data := .set #[] 0 (.fresh 0 0 (!X.w.params.followText "set-order")) } } : Shared) = s3
  have h3 : s3.heap = s2.heap.push { cls := .type "set", dict := none, data := .set #[] 0 (.fresh 0 0 (!X.w.params.followText "set-order")) } := by rw [← es3]
  have I3 : Inv X pins σ (upd H2 S (SetNO X.w S [])) s3 := by
    rw [← es3]
    refine I2.laid (t' := s2.toks) (fun b o e => Heap.get?_push_of_some _ e) (Nat.le_of_eq eS) (setNO_ok (nset_fresh ?_).bare)
    rw [← eS]
    exact Heap.get?_push_size _ rfl
  have f3 : ∀ b ∈ fp, FpOk X pins (upd H2 S (SetNO X.w S [])) b ∧ b < s3.heap.objs.size := fun b hb => by
    obtain ⟨o, e, _⟩ := T.obj _ _ st2 b hb
    have lt : b < s2.heap.objs.size := Heap.lt_size e
    refine ⟨⟨?_, (f2 b hb).2⟩, by rw [h3, Heap.size_push]; exact Nat.lt_of_lt_of_le lt (Nat.le_succ _)⟩
    have nb : b ≠ S := by
      rw [← eS]
      exact Nat.ne_of_lt lt
    rw [upd_ne nb]
    exact (f2 b hb).1
  have st3 : tn 0 s3.heap := T.keep _ _ _ st2 fun b _ o e => by
    rw [h3]
    exact Heap.get?_push_of_some _ e
  have I4 := block_start I3 ok hN f3
  have pg := hg s3 (upd H2 S (SetNO X.w S [])) s3.heap.objs.size
    (cellsFrom (s3.heap.objs.size + 1) scope.names (cloFrom X.env.cells scope.names [])) fp
  have pt := ht s3 (upd H2 S (SetNO X.w S [])) s3.heap.objs.size
    (cellsFrom (s3.heap.objs.size + 1) scope.names (cloFrom X.env.cells scope.names [])) fp
  have pe := he s3 (upd H2 S (SetNO X.w S [])) s3.heap.objs.size
    (cellsFrom (s3.heap.objs.size + 1) scope.names (cloFrom X.env.cells scope.names [])) fp
  show codeAny _ _ (.compStart (.SetComp elt [⟨tg, iter, ifs, 0⟩] scope pos) 0 (.ref it) (.ref S)
    (compEnvC scope (cellsFrom (s3.heap.objs.size + 1) scope.names (cloFrom X.env.cells scope.names [])) s3.heap.objs.size X.env))
    (compPost (model X.prog X.w) X.A X.xe none _ (.ref S) s3.heap.objs.size)
    { s3 with heap := pushCells (s3.heap.push { cls := .type "dict", data := .dict #[] }) scope.names }
  have nfp : ∀ b ∈ fp, (upd H2 S (SetNO X.w S [])) b = none := fun b hb => (f3 b hb).1.1
  generalize ece : compEnvC scope (cellsFrom (s3.heap.objs.size + 1) scope.names (cloFrom X.env.cells scope.names [])) s3.heap.objs.size X.env = C at I4 pg pt pe ⊢
  have eL : C.locals = s3.heap.objs.size := by
    subst ece
    rfl
  generalize eH3 : upd H2 S (SetNO X.w S []) = H3 at I3 I4 pg pt pe w0 nfp f3
  generalize es4 : ({ s3 with heap := pushCells (s3.heap.push { cls := .type "dict", data := .dict #[] }) scope.names } : Shared) = s4 at I4 ⊢
  have st4 : tn 0 s4.heap := T.keep _ _ _ st3 fun b _ o e => by
    rw [← es4]
    exact pushCells_keeps _ _ _ _ (Heap.get?_push_of_some _ e)
  have fo : ∀ {σ' : L2.St} {H' : Hp} {s' : Shared}, Inv (X.blk s3 H3 scope C fp) [] σ' H' s' → (∀ b ∈ fp, H' b = none) →
      ∀ b ∈ fp, FpOk (X.blk s3 H3 scope C fp) [] H' b := fun I' hn b hb =>
    ⟨hn b hb, (I'.ok.exf b hb).1, I'.ok.exfs b hb, .inl hb, fun x c e => (I'.ok.exf b hb).2 x c e, fun p hp => by
      have hp' : p ∈ ([] : List (Addr × Obj)) ++ [] := hp
      simp at hp'⟩
  refine PpSet.codeAny_compStart_set ?_ (T.self X.A 0 _ _ _ st4 ?_)
  all_goals
    refine PpSet.compLoopS_any (fun n s' => ∃ i H', Inv (X.blk s3 H3 scope C fp) [] (wipe σ (own.map (·.2))) H' s' ∧ tn i s'.heap ∧ (∀ b ∈ fp, H' b = none) ∧ W i n H') ?_ m0 ⟨0, H3, I4, st4, nfp, w0⟩
    rintro n s5 ⟨i, H5, I5, st5, n5, w5⟩
    rcases turn i n H5 w5 with ⟨stop, qq⟩ | ⟨go, Z, hZ, step⟩
    · refine thnF (T.done (X.blk s3 H3 scope C fp) rfl rfl rfl hc i [] s5 _ H5 (fun _ _ => False) I5 (fo I5 n5) st5 stop) fun r s6 ⟨hr, I6⟩ => ?_
      subst hr
      have I7 : Inv X pins σ H5 s6 := I3.call' (ch := fp) I6.os I6.base I6.hok I6.bare fun b hb =>
        ⟨(f3 b hb).1.2.2.2.1, (f3 b hb).1.2.1, (f3 b hb).1.2.2.2.2.1, (f3 b hb).1.2.2.2.2.2⟩
      have nC : H5 s3.heap.objs.size = none := by
        have z : H5 C.locals = none := I6.free
        rwa [eL] at z
      obtain ⟨m, hn, _⟩ := I6.loc
      have hn : s6.heap.Ns C.locals m := hn
      rw [eL] at hn
      obtain ⟨g0, g1, g2, g3, g4, g5⟩ := I3.fpOk (Nat.le_refl _) nC
      exact ⟨m, hn, fun h'' sb => ⟨.ref S, H5, I7.turned (t' := s6.toks) (fun b o hb e => (sb.2 b hb).trans e) g0 g1 g3 g4 g5, rfl, qq⟩⟩
    · refine thnF (T.item (X.blk s3 H3 scope C fp) rfl rfl rfl hc i [] s5 _ H5 (fun _ _ => False) I5 (fo I5 n5) st5 go) fun r s6 ⟨u, hr, h6⟩ => ?_
      subst hr
      refine thnF h6 fun _ s7 ⟨x, H7, I7, r7, y7, st7, n7⟩ => ?_
      have I7' := I7.pinned (fo I7 n7) (T.obj _ _ st7)
      refine thnF (pg.run _ s7 _ H7 x u _ I7' r7 (step x H7 y7)) fun _ s8 ⟨σ8, H8, I8, hw, q8⟩ => ?_
      refine thnF (pt.run _ s8 σ8 H8 _ I8 q8) fun b s9 ⟨H9, I9, q9⟩ => ?_
      have fin : ∀ {s' : Shared} {H' : Hp}, Inv (X.blk s3 H3 scope C fp) ([] ++ pinsAt fp s7.heap) σ8 H' s' → Z H' →
          ∃ m, m < n ∧ ∃ i H', Inv (X.blk s3 H3 scope C fp) [] (wipe σ (own.map (·.2))) H' s' ∧ tn i s'.heap ∧ (∀ b ∈ fp, H' b = none) ∧ W i m H' := fun {s' H'} I' z => by
        obtain ⟨m', hm, w'⟩ := hZ H' z
        have pin : ∀ b ∈ fp, ∀ o, s7.heap.get? b = some o → s'.heap.get? b = some o ∧ H' b = none := fun b hb o e =>
          have z := I'.pin (b, o) (List.mem_append_right _ (List.mem_append_right _ (mem_pinsAt hb e)))
          ⟨z.1, z.2.1⟩
        refine ⟨m', hm, i + 1, H', (I'.unpinned (pins := [])).weak (by rw [← hw, wipe_length]) fun j v e => ?_, T.keep _ _ _ st7 fun b hb o e => (pin b hb o e).1, fun b hb => ?_, w'⟩
        · rw [← hw] at e
          exact (wipe_some e).1
        · obtain ⟨o, e, _⟩ := T.obj _ _ st7 b hb
          exact (pin b hb o e).2
      cases b with
      | false =>
        simp only [Bool.false_eq_true, if_false] at q9 ⊢
        exact fin I9 q9
      | true =>
        simp only [if_true] at q9 ⊢
        refine thnF (pe.run _ s9 σ8 H9 _ I9 q9) fun z s10 ⟨yv, H10, I10, r10, F, t, d, L, sb, ey, rd, kd, hS10, hk, few, nx⟩ => ?_
        subst ey
        cases (show z = Value.ref t from r10)
        exact putN_ok (X := X.blk s3 H3 scope C fp) I10 hu hS10 (keyDs_at I10 sb hk) (keyD_at I10 sb rd kd) few fun L' s11 c1 c2 I11 => fin I11 (nx L' c1 c2)
end
section
variable {X : Cx} {elt tg iter tg1 iter1 : Expr} {ifs ifs1 : List Expr} {scope : Scope} {own : List (Str × Nat)} {vs1 : List Nat} {pos : Pos}
end
end DV

namespace DV
open PySem PySem.Spec PyProof.Rows L2 PySem.SeqAt

/-! ### sorted of such a set -/
abbrev nkp (p : Addr × D) : Addr × NestedKey := (p.1, p.2.nk)
def rSortN (K : PySem.W.Frag) (w : World) (xs : List V) (H : Hp) (Q : VK) : Prop := ∃ (F : Hp) (a : Addr) (L : List (Addr × D)), Sub F H ∧ xs = [.ref a] ∧ H a = some (SetNO w a (L.map nkp)) ∧ (∀ p ∈ L, Rp K F (.ref p.1) p.2 ∧ p.2.kok = true) ∧ SrtD (L.map (·.2)) ∧
  ∀ vs ys p, RpA K F vs ys → SortTo (L.map (·.2)) ys → H p = none → Q (.ref p) (upd H p (.lst vs))
theorem vals_refD : ∀ L : List (Addr × D), Vals (L.map fun p => V.ref p.1) (L.map fun p => Value.ref p.1)
  | [] => .nil
  | p :: L => .cons rfl (vals_refD L)
section
variable {X : Cx}
theorem call_sortN (hcalm : X.calm = true) (hu : X.A.units + 65 < cLine) : CallR X (.builtin "sorted") (rSortN X.K X.w) := by
  intro pins s σ H xs us Q I r ⟨F, a, L, sb, ex, hS, rp, S, q⟩
  subst ex
  obtain ⟨u, eu, rx⟩ := vals1 r
  subst eu
  cases (show u = Value.ref a from rx)
  obtain ⟨es, ep, tb, R⟩ := ((I.hok a _ hS).1 : SetN0 X.w s.heap a (L.map nkp)).with (keyDs_at I sb fun p hp => by
    obtain ⟨z, hz, rfl⟩ := List.mem_map.mp hp
    exact ⟨z.2, (rp z hz).1, (rp z hz).2, rfl⟩)
  obtain ⟨o, ho, hex, hd⟩ := R.ob
  have hrpa : ∀ L : List (Addr × D), (∀ p ∈ L, Rp X.K F (.ref p.1) p.2 ∧ p.2.kok = true) → RpA X.K F (L.map fun p => V.ref p.1) (L.map (·.2)) := by
    intro L
    induction L with
    | nil => intro _; exact .nil
    | cons p L ih => intro h; exact .cons (h p List.mem_cons_self).1 (ih fun x hx => h x (List.mem_cons_of_mem _ hx))
  obtain ⟨T, e1, e2, e3, k⟩ := tri_of I sb S.all (hrpa L rp) (vals_refD L)
  rw [← e1] at S q
  have hsz := rowsN_size R.rows
  rw [List.length_map] at hsz
  have hfew := R.few
  rw [List.length_map] at hfew
  refine Calls.call_function_entry PyProof.Rows.kind_sorted PyProof.Rows.plain_sorted PyProof.Rows.entry_sorted (PyProof.Rows.args_sorted1 _) ?_
  unfold Builtin.«sorted»
  refine wpAny_bind (m := checkCount "sorted" 1 1 _) (wpAny_pure ?_)
  refine wpAny_bind (collect_set (A := X.A.in1) (I.ok.hd hcalm) ⟨o, ho, hex.1, hd⟩ R.fit (by unfold scanBound; omega) R.tab.up R.led fun s1 out0 k1 hz g1 o1 pm => ?_)
  have hes : es.toList.map (·.2) = L.map fun q => Value.ref q.1 := by
    rw [R.rows]
    unfold rowsN
    rw [List.map_map, List.map_map]
    rfl
  rw [hes, ← e3] at pm
  obtain ⟨T', pT, eT⟩ := perm_lift (·.2.2) pm T rfl
  have k' : ∀ t ∈ T', Tri X.K F s.heap t := fun t ht => k t (pT.mem_iff.mp ht)
  have S' : SrtD (T'.map (·.1)) := ⟨⟨by
      obtain ⟨n, hn⟩ := S.ok.kind
      exact ⟨n, fun x hx => by
        obtain ⟨d, hd, rfl⟩ := List.mem_map.mp hx
        exact hn _ (List.mem_map.mpr ⟨d, (pT.map (·.1)).mem_iff.mp hd, rfl⟩)⟩, fun x hx y hy => by
      obtain ⟨d, hd, rfl⟩ := List.mem_map.mp hx
      obtain ⟨e, he, rfl⟩ := List.mem_map.mp hy
      exact S.ok.ok _ (List.mem_map.mpr ⟨d, (pT.map (·.1)).mem_iff.mp hd, rfl⟩) _ (List.mem_map.mpr ⟨e, (pT.map (·.1)).mem_iff.mp he, rfl⟩), fun x hx => by
      obtain ⟨d, hd, rfl⟩ := List.mem_map.mp hx
      exact S.ok.deep _ (List.mem_map.mpr ⟨d, (pT.map (·.1)).mem_iff.mp hd, rfl⟩)⟩, fun d hd => S.all d ((pT.map (·.1)).mem_iff.mp hd)⟩
  have I1 : Inv X pins σ H s1 := I.call' (ch := []) o1 (Un.kept k1) (I.hok.kept k1) (by rw [g1]; exact I.bare) (fun _ z => nomatch z)
  have hlen0 : out0.length ≤ 4000 := by
    have l1 := congrArg List.length e1
    rw [List.length_map, List.length_map] at l1
    rw [pm.length_eq, List.length_map]
    omega
  have hz' : (T'.map (·.2.2)).length ≤ sizeLine := by
    rw [eT]
    exact Nat.le_trans hlen0 (by rw [sizeLine_eq]; omega)
  rw [← eT]
  refine wpAny_bind (wpAny_newList ?_ hz')
  have hoL : (s1.heap.push (seqObj "list" (T'.map (·.2.2)).toArray 0)).get? s1.heap.objs.size = some (seqObj "list" (T'.map (·.2.2)).toArray 0) := Heap.get?_push_size _ rfl
  refine wpAny_bind (wpAny_holding (wpAny_call_entry PyProof.Rows.slot_list_sort ⟨_, hoL, rfl⟩ PyProof.Rows.entry_list_sort
    (SrtO.list_sort_ord (s := { s1 with heap := s1.heap.push (seqObj "list" (T'.map (·.2.2)).toArray 0) }) (ltN_swo (keyAt s.heap)) hoL hz' (fun h2 => ?_) fun out hs hb => ⟨_, rfl, ?_⟩)
    (PyProof.Rows.args_list_sort _)))
  · obtain ⟨_, _, sv⟩ := rpa_of k'
    have sv' : Svs (s1.heap.push (seqObj "list" (T'.map (·.2.2)).toArray 0)) ((T'.map (·.1)).map D.nt) (T'.map (·.2.2)) := sv.at' fun b o e _ => Heap.get?_push_of_some _ (k1 b o e)
    refine sortable_n (s := { s1 with heap := s1.heap.push (seqObj "list" (T'.map (·.2.2)).toArray 0) }) sv' (fun v hv j z => ?_) S'.ok h2 (fun o e => ?_) ?_
    · obtain ⟨j0, _, z0⟩ := svs_mem sv v hv
      rw [keyAt_of z0]
      exact NestedIs.inj _ _ v (z0.at' fun b o e _ => Heap.get?_push_of_some _ (k1 b o e)).nested z.nested
    · have e' : some o = some (seqObj "list" (T'.map (·.2.2)).toArray 0) := e.symm.trans hoL
      cases e'
      intro c
      exact absurd (Value.type.inj c) (by decide)
    · simp only [Around.in1_units]
      omega
  · obtain ⟨vs', ys, r1, r2, r3⟩ := tri_sorted k' hs hb.perm
    obtain ⟨n, hn⟩ := PyProof.Rows.sortedHeap_at (vs := T'.map (·.2.2)) (out := out.toArray) hoL
    have hl : vs'.length ≤ sizeLine := by
      rw [r2.length, hb.perm.length_eq]
      exact hz'
    refine wpAny_pure ⟨_, rfl, .ref s1.heap.objs.size, upd H s1.heap.objs.size (.lst vs'), I1.laid (t' := s1.toks) (fun b u e => ?_) (Nat.le_refl _) ⟨hl, out, n, r2, hn⟩, rfl, q vs' ys _ r1 ⟨r3.1.trans (pT.map _), r3.2⟩ (I1.hok.fresh (Nat.le_refl _))⟩
    have hb : b < s1.heap.objs.size := Heap.lt_size e
    rw [PyProof.Rows.sortedHeap_old (Nat.ne_of_lt hb) (by rw [size_push']; exact Nat.lt_succ_of_lt hb)]
    exact Heap.get?_push_of_some _ e
end
theorem nk_injD : ∀ {d e : D}, d.kin = true → e.kin = true → d.nk = e.nk → d = e
  | .int i, .int j, _, _, h => by simp only [D.nk, NestedKey.num.injEq] at h; rw [h]
  | .int i, .tup es, _, _, h => by simp [D.nk] at h
  | .tup ds, .int j, _, _, h => by simp [D.nk] at h
  | .tup ds, .tup es, h, g, e => by
    simp only [D.kin] at h g
    simp only [D.nk, NestedKey.tup.injEq] at e
    have key : ∀ (ds es : List D), (∀ x ∈ ds, ∀ y : D, x.kin = true → y.kin = true → x.nk = y.nk → x = y) → D.kins ds = true → D.kins es = true → D.nks ds = D.nks es → ds = es := by
      intro ds
      induction ds with
      | nil => intro es _ _ _ e; cases es <;> simp [D.nks] at e ⊢
      | cons d ds ih =>
        intro es hx h g e
        cases es with
        | nil => simp [D.nks] at e
        | cons y es =>
          simp only [D.nks, List.cons.injEq] at e
          simp only [D.kins, Bool.and_eq_true] at h g
          rw [hx d List.mem_cons_self y h.1 g.1 e.1, ih es (fun x hx' => hx x (List.mem_cons_of_mem _ hx')) h.2 g.2 e.2]
    rw [key ds es (fun x _ y a b c => nk_injD a b c) h g e]
  | .non, _, h, _, _ => by simp [D.kin] at h
  | .bl _, _, h, _, _ => by simp [D.kin] at h
  | .str _, _, h, _, _ => by simp [D.kin] at h
  | .lst _, _, h, _, _ => by simp [D.kin] at h
  | .dic _, _, h, _, _ => by simp [D.kin] at h
  | .bag, _, h, _, _ => by simp [D.kin] at h
  | .scr, _, h, _, _ => by simp [D.kin] at h
  | .int _, .non, _, h, _ => by simp [D.kin] at h
  | .int _, .bl _, _, h, _ => by simp [D.kin] at h
  | .int _, .str _, _, h, _ => by simp [D.kin] at h
  | .int _, .lst _, _, h, _ => by simp [D.kin] at h
  | .int _, .dic _, _, h, _ => by simp [D.kin] at h
  | .int _, .bag, _, h, _ => by simp [D.kin] at h
  | .int _, .scr, _, h, _ => by simp [D.kin] at h
  | .tup _, .non, _, h, _ => by simp [D.kin] at h
  | .tup _, .bl _, _, h, _ => by simp [D.kin] at h
  | .tup _, .str _, _, h, _ => by simp [D.kin] at h
  | .tup _, .lst _, _, h, _ => by simp [D.kin] at h
  | .tup _, .dic _, _, h, _ => by simp [D.kin] at h
  | .tup _, .bag, _, h, _ => by simp [D.kin] at h
  | .tup _, .scr, _, h, _ => by simp [D.kin] at h
/-! ### as data -/
/-- the set's members one behind the other, newest first, as often as they were put in -/
def scN (g : DG) (tt : DT) (te : DE) (ρ : List Slot) : List D → List D → (List D → Prop) → Prop
  | [], acc, Q => Q acc
  | d :: ds, acc, Q => g d ρ fun ρ2 => tt ρ2 fun b => if b = true then te ρ2 fun y => y.kok = true ∧ acc.length + 1 ≤ 4000 ∧ scN g tt te ρ ds (y :: acc) Q else scN g tt te ρ ds acc Q
/-- each once, rising -/
def SetToN (acc : List D) (ys : List D) : Prop := ∃ ks : List D, ks.Nodup ∧ (∀ k, k ∈ ks ↔ k ∈ acc) ∧ SortTo ks ys
def k_setN (Q : D → Prop) (acc : List D) : Prop := SrtD acc ∧ ∀ ys, SetToN acc ys → Q (.lst ys)
def dSortN (it : DI) (g : DG) (tt : DT) (te : DE) (vs : List Nat) : DE := fun ρ Q => it ρ fun ds => scN g tt te (wipeD ρ vs) ds [] (k_setN Q)
theorem SrtD.sub {a b : List D} (h : SrtD a) (s : ∀ x ∈ b, x ∈ a) : SrtD b := by
  have up : ∀ k ∈ b.map D.nt, k ∈ a.map D.nt := fun k hk => by
    obtain ⟨d, hd, rfl⟩ := List.mem_map.mp hk
    exact List.mem_map.mpr ⟨d, s d hd, rfl⟩
  obtain ⟨n, hn⟩ := h.ok.kind
  exact ⟨⟨⟨n, fun k hk => hn k (up k hk)⟩, fun k hk j hj => h.ok.ok k (up k hk) j (up j hj), fun k hk => h.ok.deep k (up k hk)⟩, fun d hd => h.all d (s d hd)⟩
theorem rp_keyref {K : PySem.W.Frag} {F : Hp} {v : V} {d : D} (r : Rp K F v d) (k : d.kok = true) : ∃ t, v = .ref t := by
  cases r <;> first | exact ⟨_, rfl⟩ | (simp [D.kok] at k; done)
/-- the set as it stands -/
structure SetAtN (X : Cx) (F1 H1 : Hp) (S : Addr) (acc : List D) (F' H' : Hp) (L : List (Addr × D)) : Prop where
  x : Ext F1 H1 F' H'
  f : F' S = none
  h : H' S = some (SetNO X.w S (L.map nkp))
  rk : ∀ p ∈ L, Rp X.K F' (.ref p.1) p.2 ∧ p.2.kok = true
  nd : (L.map (·.2)).Nodup
  mem : ∀ k, k ∈ L.map (·.2) ↔ k ∈ acc
  len : L.length ≤ acc.length
section
variable {X : Cx} {F1 H1 F' H' F2 H2 : Hp} {S : Addr} {acc : List D} {L : List (Addr × D)}
theorem SetAtN.start (hx : Ext F1 (upd H1 S (SetNO X.w S [])) F1 (upd H1 S (SetNO X.w S []))) (x : Ext F1 H1 F1 (upd H1 S (SetNO X.w S []))) (f : F1 S = none) : SetAtN X F1 H1 S [] F1 (upd H1 S (SetNO X.w S [])) [] :=
  ⟨x, f, upd_same, (fun _ z => nomatch z), List.nodup_nil, (fun _ => Iff.rfl), Nat.le_refl _⟩
theorem SetAtN.on (A : SetAtN X F1 H1 S acc F' H' L) (y : Ext F' H' F2 H2) : SetAtN X F1 H1 S acc F2 H2 L :=
  have k := y.keep S _ A.f A.h
  ⟨A.x.trans y, k.2, k.1, fun p hp => ⟨(A.rk p hp).1.mono y.mono, (A.rk p hp).2⟩, A.nd, A.mem, A.len⟩
theorem SetAtN.keys (A : SetAtN X F1 H1 S acc F' H' L) : ∀ p ∈ L.map nkp, ∃ e, Rp X.K F' (.ref p.1) e ∧ e.kok = true ∧ p.2 = e.nk := fun p hp => by
  obtain ⟨z, hz, rfl⟩ := List.mem_map.mp hp
  exact ⟨z.2, (A.rk z hz).1, (A.rk z hz).2, rfl⟩
theorem SetAtN.isin (A : SetAtN X F1 H1 S acc F' H' L) {d : D} (k : d.kok = true) : d.nk ∈ (L.map nkp).map (·.2) ↔ d ∈ L.map (·.2) := by
  rw [List.map_map]
  constructor
  · intro h
    obtain ⟨p, hp, e⟩ := List.mem_map.mp h
    exact List.mem_map.mpr ⟨p, hp, nk_injD (kok_kin (A.rk p hp).2) (kok_kin k) e⟩
  · intro h
    obtain ⟨p, hp, e⟩ := List.mem_map.mp h
    exact List.mem_map.mpr ⟨p, hp, congrArg D.nk e⟩
theorem SetAtN.add (hD : H1 S = none) (A : SetAtN X F1 H1 S acc F' H' L) {t : Addr} {d : D} (ry : Rp X.K F' (.ref t) d) (kd : d.kok = true) {L' : List (Addr × NestedKey)} (c1 : d.nk ∈ (L.map nkp).map (·.2) → L' = L.map nkp) (c2 : d.nk ∉ (L.map nkp).map (·.2) → L'.Perm ((t, d.nk) :: L.map nkp)) :
    ∃ M, SetAtN X F1 H1 S (d :: acc) F' (upd H' S (SetNO X.w S L')) M := by
  have base : Ext F1 H1 F' (upd H' S (SetNO X.w S L')) := ⟨A.x.mono, fun a o e z => by
    rw [upd_ne (ne_of_none z hD)]
    exact A.x.keep a o e z, Ext.own A.x.sub A.f⟩
  by_cases hm : d.nk ∈ (L.map nkp).map (·.2)
  · have e := c1 hm
    subst e
    have hd := (A.isin kd).mp hm
    refine ⟨L, base, A.f, upd_same, A.rk, A.nd, fun k => ?_, Nat.le_succ_of_le A.len⟩
    rw [A.mem k, List.mem_cons]
    exact ⟨.inr, fun z => z.elim (fun z => by rw [z]; exact (A.mem d).mp hd) id⟩
  · obtain ⟨M, pm, em⟩ := perm_lift nkp (c2 hm) ((t, d) :: L) rfl
    have nd : d ∉ L.map (·.2) := fun z => hm ((A.isin kd).mpr z)
    have pk := pm.map (·.2)
    refine ⟨M, base, A.f, by rw [em]; exact upd_same, fun p hp => ?_, pk.nodup_iff.mpr (List.nodup_cons.mpr ⟨nd, A.nd⟩), fun x => ?_, ?_⟩
    · rcases List.mem_cons.mp (pm.mem_iff.mp hp) with rfl | z
      · exact ⟨ry, kd⟩
      · exact A.rk p z
    · rw [pk.mem_iff, List.map_cons, List.mem_cons, List.mem_cons, A.mem x]
    · rw [pm.length_eq, List.length_cons, List.length_cons]
      exact Nat.succ_le_succ A.len
end
section
variable {X : Cx} {elt tg iter : Expr} {ifs : List Expr} {scope : Scope} {own : List (Str × Nat)} {pos pos' p : Pos} {it : DI} {g : TG} {g' : DG} {tt : DT} {te : DE}
theorem lf_sortN (hG : RelG X.K (own.map (·.2)) g g') : ∀ σ H Q, lfEo X.K (dSortN it g' tt te (own.map (·.2))) σ H Q →
    tCB (rSortN X.K X.w) (tCons (tSetN X.K X.prog X.w (lfI X.K it) g (lfT X.K tt) (lfE X.K te) (own.map (·.2))) tNil) σ H Q := fun σ H Q ⟨ρ, F, Q0, s, en, ht, k⟩ => by
  refine ⟨ρ, F, _, s, en, ht, fun J H1 F1 ds x1 io q Dd hD => ?_⟩
  have en1 := en.mono x1
  have hF1 := x1.sub.none hD
  let G : List D → List D → Prop := fun l acc => scN g' tt te (wipeD ρ (own.map (·.2))) l acc (k_setN Q0)
  refine ⟨fun i m H' => m = ds.length - i ∧ i ≤ ds.length ∧ ∃ F' acc L, SetAtN X F1 H1 Dd acc F' H' L ∧ G (ds.drop i) acc,
    ⟨ds.length, rfl, Nat.zero_le _, F1, [], [], ⟨Ext.newO x1.sub hD, hF1, upd_same, (fun _ z => nomatch z), List.nodup_nil, (fun _ => Iff.rfl), Nat.le_refl _⟩, q⟩, fun i m H' hW => ?_⟩
  obtain ⟨rfl, hle, F', acc, L, A, q'⟩ := hW
  obtain ⟨h1, h2⟩ := io F' H' A.x.mono A.x.sub i
  by_cases hi : i < ds.length
  · obtain ⟨go, hy⟩ := h1 hi
    refine .inr ⟨go, fun H'' => ∃ F' acc L, SetAtN X F1 H1 Dd acc F' H'' L ∧ G (ds.drop (i + 1)) acc, fun H'' hN => ⟨ds.length - (i + 1), by omega, rfl, hi, hN⟩, fun x H2 hyx => ?_⟩
    obtain ⟨F2, d, x3, ed, rd⟩ := hy x H2 hyx
    rw [drop_cons ed] at q'
    have A2 := A.on x3
    refine hG _ _ _ _ _ _ _ _ _ _ _ (Sta.empty A2.x.sub ((en1.mono A2.x).wipe _)) rd q' fun σ3 ρ3 s3 hw q3 => ⟨hw.trans (wipe2 _ _), ρ3, F2, _, s3.ext.sub, s3.env, q3, fun b H3 F3 x4 q4 => ?_⟩
    have A3 := A2.on x4
    cases b with
    | false => exact iteF ⟨F3, acc, L, A3, q4⟩
    | true =>
      refine iteT ⟨ρ3, F3, _, x4.sub, s3.env.mono x4, q4, fun y H4 F4 dy x5 ry q5 => ?_⟩
      obtain ⟨kd, few, q5⟩ := q5
      have A4 := A3.on x5
      obtain ⟨t, et⟩ := rp_keyref ry kd
      subst et
      have hlen := A4.len
      refine ⟨F4, t, dy, L.map nkp, x5.sub, rfl, ry, kd, A4.h, A4.keys, by rw [List.length_map]; omega, fun L' c1 c2 => ?_⟩
      obtain ⟨M, C⟩ := A4.add hD ry kd c1 c2
      exact ⟨F4, _, M, C, q5⟩
  · refine .inl ⟨h2 (by omega), ?_⟩
    have e : ds.drop i = [] := List.drop_eq_nil_of_le (by omega)
    rw [e] at q'
    refine ⟨F', Dd, L, A.x.sub, rfl, A.h, A.rk, q'.1.sub fun x hx => (A.mem x).mp hx, fun vs ys p ra st hp => ?_⟩
    have hp1 : H1 p = none := A.x.noneBack x1.sub hp
    exact k _ _ F' _ ((x1.trans A.x).trans (Ext.newO A.x.sub hp)) (OwnV.lst (x1.noneBack s hp1) (A.x.sub.none hp) upd_same ra) (q'.2 ys ⟨L.map (·.2), A.nd, A.mem, st⟩)
theorem pdo_sortN (hG : RelG X.K (own.map (·.2)) g g') (hc : X.calm = true) (hu : X.A.units + 65 < cLine) (hN : X.N.Nodup) (hm : X.mg "sorted" = none) (hi : PDI X tg iter it) (ok : BlkOk X.N X.env.scope scope own)
    (hg : ∀ (s : Shared) (H : Hp) (C : Addr) (cl : List (Str × Addr)) (fp : List Addr),
      PG (X.blk s H scope (compEnvC scope cl C X.env) fp) tg g)
    (ht : ∀ (s : Shared) (H : Hp) (C : Addr) (cl : List (Str × Addr)) (fp : List Addr),
      PTs (X.blk s H scope (compEnvC scope cl C X.env) fp) ifs (lfT X.K tt))
    (he : ∀ (s : Shared) (H : Hp) (C : Addr) (cl : List (Str × Addr)) (fp : List Addr),
      PE (X.blk s H scope (compEnvC scope cl C X.env) fp) elt (lfE X.K te))
    (hg0 : Gl X "sorted" := by rfl) (hs : ∀ x, foldedSetIterable iter X.env x = pure x := by intro _; rfl)
    (hst : starEach [.SetComp elt [⟨tg, iter, ifs, 0⟩] scope pos] X.env = (false, eval (.SetComp elt [⟨tg, iter, ifs, 0⟩] scope pos) X.env) :: starEach [] X.env := by rfl) :
    PDo X (.Call (.Name "sorted" p) [.SetComp elt [⟨tg, iter, ifs, 0⟩] scope pos] [] pos') (dSortN it g' tt te (own.map (·.2))) :=
  PE.impD (pe_callB (call_sortN hc hu) hg0 hm PyProof.Rows.boot_sorted (pa_cons (pe_setN hc (by omega) hN hi ok hg ht he hs) pa_nil hst) (by decide) (by decide) hst) (lf_sortN hG)
end
section
variable {X : Cx} {elt tg iter tg1 iter1 : Expr} {ifs ifs1 : List Expr} {scope : Scope} {own : List (Str × Nat)} {vs1 : List Nat} {pos pos' p : Pos} {it it1 : DI} {g g1 : TG} {g' g1' : DG} {tt tt1 : DT} {te : DE}
end
end DV

namespace DV
open PySem PySem.Spec PyProof.Rows L2

/-! ### min, max of a pair of any alike data -/
section
variable {prog : Program} {w : World} {A : Around} {E : Value → Shared → Prop} {s : Shared}
end
end DV

namespace DV
open PySem PySem.Spec PyProof.Rows L2
/-! the readings of the defs, by canon.json -/
end DV

namespace DV
open PySem PySem.Spec PyProof.Rows L2

/-! ### expressions that may raise; what they tell put into an own list, also in an except suite -/
abbrev DEX := List Slot → (D → Prop) → DX → Prop
section
variable {X : Cx} {W : WX} {e a b c o : Expr} {es : List Expr} {t : DE} {tr : DA} {tA : DT} {ta tb tx : DEX} {pos p p2 cpos apos : Pos} {nm : Str} {k : Nat} {dd : List D} {f : DSpX}
end
section
variable {X : Cx} {i : Nat} {a : Addr} {d : Option Addr} {n : Str} {e o : Expr} {t : DEF} {pos cpos apos : Pos} {oe : Obj} {pn : List (Addr × Obj)}
end
end DV

/-! DzQ: x(lambda: body): a def that calls what it is handed inside its try and tells what it caught -/
namespace DV
open PySem PySem.Spec PyProof.Rows L2 PySem.SeqAt
section
variable {P : Program} {w : World} {K : PySem.W.Frag} {mg : Str → Option Value} {base : Heap}
end
section
variable {X : Cx} {body : Expr} {te : DEX} {params : Arguments} {scope : Scope} {T : List (Addr × Str)} {P c : Addr} {j k : Nat} {x a r e : Str} {hs : List Hd} {p lpos pos : Pos}
end
end DV

/-! DzR: x = [a(), b()]: lists of one's own in a list of one's own, read, then spoilt and never read again -/
namespace DV
open PySem PySem.Spec PyProof.Rows L2
def falseN (N : DN) : DN := { N with nx := fun _ => False }
def sNest (i : Nat) (tA tB : DE) (tT : DT) (u : DS) (tE : DE) : DS := fun N ρ => tA ρ fun dA => tB ρ fun dB => ∃ as bs : List D, dA = .lst as ∧ dB = .lst bs ∧ as.length < sizeLine ∧ i < ρ.length ∧
  tT (ρ.set i (.v (.lst [.lst as, .lst bs]))) fun b => if b = true then u (falseN N) (ρ.set i (.v (.lst [.lst as, .lst bs]))) else tE (ρ.set i (.v (.lst [.lst as, .lst bs]))) fun _ => N.nx (ρ.set i .un)
open Classical in
/-- F, and of F5 what lasts -/
noncomputable def lastH (F F5 : Hp) : Hp := fun b => match F b with
  | some o => some o
  | none => if ∃ o, F5 b = some o ∧ Lasting b o then F5 b else none
theorem lastH_F {F F5 : Hp} {b : Addr} {o : HO} (h : F b = some o) : lastH F F5 b = some o := by unfold lastH; rw [h]
theorem lastH_5 {F F5 : Hp} (m : Same F F5) {b : Addr} {o : HO} (h : lastH F F5 b = some o) : F5 b = some o ∧ (F b = some o ∨ Lasting b o) := by
  unfold lastH at h
  cases e : F b with
  | some o' =>
    rw [e] at h
    cases h
    exact ⟨m _ _ e, .inl rfl⟩
  | none =>
    rw [e] at h
    simp only at h
    split at h
    · rename_i g
      obtain ⟨o', e1, l⟩ := g
      rw [e1] at h
      cases h
      exact ⟨e1, .inr l⟩
    · cases h
theorem lastH_last {F F5 : Hp} (m : Same F F5) {b : Addr} {o : HO} (l : Lasting b o) (h : F5 b = some o) : lastH F F5 b = some o := by
  unfold lastH
  cases e : F b with
  | some o' => exact (m _ _ e).symm.trans h
  | none =>
    simp only
    rw [if_pos ⟨o, h, l⟩]
    exact h
theorem last_lst {b : Addr} {xs : List V} : ¬Lasting b (.lst xs) := fun h => by
  rcases h with h | ⟨q, h⟩
  · cases h
  · cases h
section
variable {X : Cx} {eA eB c : Expr} {as rest : List Stmt} {tA tB tE : DE} {tT : DT} {u v : DS} {i : Nat} {x : Str} {p1 p2 p3 p4 p10 q10 : Pos} {e3 e4 : Expr}
theorem pds_nest (hN : X.N.Nodup) (hi : X.N[i]? = some x) (hx : Loc X.env.scope x) (hA : PDo X eA tA) (hB : PDo X eB tB) (hT : PDT X c tT) (hu : PDSs X as u)
    (h3 : PE X e3 (tBM X.K "list" rAppend (tOp (rIxL X.K) (tVar i) (tC (.int 0))) (tCons (lfE X.K tE) tNil))) (h4 : PE X e4 (tBM0 X.K "list" rClear (tOp (rIxL X.K) (tVar i) (tC (.int 1)))))
    (hr : PDSs X rest v)
    (hs1 : swapsWith (.List [eA, eB] p2) (some (.Name x p1)) p3.line X.env = pure false := by rfl) (hs3 : swapsWith e3 none p10.line X.env = pure false := by rfl) (hs4 : swapsWith e4 none q10.line X.env = pure false := by rfl)
    (hf : X.fn x = true ∨ X.env.scope.names.lookup x = some .local := by first | exact .inl rfl | exact .inr rfl | assumption)
    (st1 : starEach [eA, eB] X.env = (false, eval eA X.env) :: starEach [eB] X.env := by rfl) (st2 : starEach [eB] X.env = (false, eval eB X.env) :: starEach [] X.env := by rfl) :
    PDSs X (.Assign [.Name x p1] (.List [eA, eB] p2) p3 :: .If c as [] p4 :: .Expr e3 p10 :: .Expr e4 q10 :: rest) (sSeq (sNest i tA tB tT u tE) v) := by
  refine (pss_cons (ps_set hN hi hx (pe_lst (pa_cons hA (pa_cons hB pa_nil st2) st1)) hs1 hf) (pss_cons (ps_if hT hu pss_nil) (pss_cons (ps_expr h3 hs3) (pss_cons (ps_expr h4 hs4) hr)))).impD fun Dn σ H ⟨F0, H0, G, ρ, M, ⟨F, so⟩, ht, k⟩ => ?_
  have hiσ : i < σ.length → ∀ w : V, (σ.set i (some w))[i]? = some (some w) := fun h w => List.getElem?_set_self h
  refine ⟨ρ, F, _, so.ext.sub, so.env, ht, fun v1 H1 F1 dA x1 o1 q1 => ⟨ρ, F1, _, x1.sub, so.env.mono x1, q1, fun v2 H2 F2 dB x2 o2 q2 => ?_⟩⟩
  obtain ⟨as', bs, rfl, rfl, hl, hil, q3⟩ := q2
  rcases o1 with ⟨n, _⟩ | ⟨a1, rfl, h01, hF1, xs1, hp1, r1⟩
  · simp [D.noLst] at n
  rcases o2 with ⟨n, _⟩ | ⟨a2, rfl, h02, hF2, xs2, hp2, r2⟩
  · simp [D.noLst] at n
  obtain ⟨e21, f21⟩ := x2.keep a1 _ hF1 hp1
  have ne12 : a2 ≠ a1 := fun e => by rw [e, hp1] at h02; cases h02
  have x12 := x1.trans x2
  have hH2 : H a2 = none := x1.noneBack so.ext.sub h02
  have xa := x12.adopt h01 f21 e21
  have xb := xa.adopt (p := a2) hH2 (by rw [upd_ne ne12]; exact hF2) hp2
  refine ⟨by show 2 ≤ sizeLine; decide, fun a ha => ?_⟩
  have n1 : a1 ≠ a := fun e => by rw [← e, e21] at ha; cases ha
  have n2 : a2 ≠ a := fun e => by rw [← e, hp2] at ha; cases ha
  have hHa : H a = none := x12.noneBack so.ext.sub ha
  have xc := xb.trans (Ext.new (o := .lst [.ref a1, .ref a2]) xb.sub ha (fun _ z => nomatch z))
  have g1 : upd (upd (upd F2 a1 (.lst xs1)) a2 (.lst xs2)) a (.lst [.ref a1, .ref a2]) a1 = some (.lst xs1) := by rw [upd_ne n1, upd_ne (Ne.symm ne12), upd_same]
  have g2 : upd (upd (upd F2 a1 (.lst xs1)) a2 (.lst xs2)) a (.lst [.ref a1, .ref a2]) a2 = some (.lst xs2) := by rw [upd_ne n2, upd_same]
  have g0 : upd (upd (upd F2 a1 (.lst xs1)) a2 (.lst xs2)) a (.lst [.ref a1, .ref a2]) a = some (.lst [.ref a1, .ref a2]) := upd_same
  have mF2 : Same F2 (upd (upd (upd F2 a1 (.lst xs1)) a2 (.lst xs2)) a (.lst [.ref a1, .ref a2])) := fun b o e => by
    have b1 : b ≠ a1 := fun z => by rw [z, f21] at e; cases e
    have b2 : b ≠ a2 := fun z => by rw [z, hF2] at e; cases e
    have b0 : b ≠ a := fun z => by
      have := x2.sub.none ha
      rw [z, this] at e
      cases e
    rw [upd_ne b0, upd_ne b2, upd_ne b1]
    exact e
  generalize hF3 : upd (upd (upd F2 a1 (.lst xs1)) a2 (.lst xs2)) a (.lst [.ref a1, .ref a2]) = F3 at xc g1 g2 g0 mF2
  have rA : Rp X.K F3 (.ref a1) (.lst as') := .lst g1 (r1.mono (x2.mono.trans mF2))
  have rB : Rp X.K F3 (.ref a2) (.lst bs) := .lst g2 (r2.mono mF2)
  have so3 := (so.step xc).set i (.lst g0 (.cons rA (.cons rB .nil)) : Rp X.K F3 (.ref a) (.lst [.lst as', .lst bs]))
  refine ⟨_, F3, _, so3.ext.sub, so3.env, q3, fun b H4 F4 x4 q4 => ?_⟩
  cases b with
  | true => exact iteT ⟨F0, H0, G, _, _, ⟨F4, so3.step x4⟩, q4, ⟨fun _ _ _ _ z => z.elim, k.rt, k.ro, k.bk, k.ct⟩⟩
  | false =>
    refine iteF ?_
    have hσ : (σ.set i (some (.ref a)))[i]? = some (some (.ref a)) := List.getElem?_set_self (by rw [so.env.len]; exact hil)
    have A4 : H4 a = some (.lst [.ref a1, .ref a2]) := x4.sub.lst (x4.mono _ _ g0)
    have P4 : H4 a1 = some (.lst xs1) := x4.sub.lst (x4.mono _ _ g1)
    have len1 : xs1.length < sizeLine := by rw [r1.length]; exact hl
    have so4 := so3.step x4
    refine ⟨.ref a, hσ, a, _, 0, .ref a1, rfl, rfl, .inl (.inl A4), rfl, .inl ⟨rfl, _, .inl (.inl P4)⟩, ?_⟩
    refine ⟨_, F4, _, so4.ext.sub, so4.env, q4, fun w H5 F5 d x5 rw5 q5 => ?_⟩
    have x35 := x4.trans x5
    have A5 : H5 a = some (.lst [.ref a1, .ref a2]) := x35.sub.lst (x35.mono _ _ g0)
    have P5 : H5 a1 = some (.lst xs1) := x35.sub.lst (x35.mono _ _ g1)
    have R5 : H5 a2 = some (.lst xs2) := x35.sub.lst (x35.mono _ _ g2)
    refine ⟨a1, xs1, w, rfl, rfl, P5, len1, ?_⟩
    have A6 : upd H5 a1 (.lst (xs1 ++ [w])) a = some (.lst [.ref a1, .ref a2]) := by rw [upd_ne (Ne.symm n1)]; exact A5
    have R6 : upd H5 a1 (.lst (xs1 ++ [w])) a2 = some (.lst xs2) := by rw [upd_ne ne12]; exact R5
    refine ⟨.ref a, hσ, a, _, 1, .ref a2, rfl, rfl, .inl (.inl A6), rfl, .inl ⟨rfl, _, .inl (.inl R6)⟩, a2, xs2, rfl, rfl, R6, ?_⟩
    have x05 := xc.trans x35
    have old : ∀ b o, b ≠ a1 → b ≠ a2 → H5 b = some o → upd (upd H5 a1 (.lst (xs1 ++ [w]))) a2 (.lst []) b = some o := fun b o b1 b2 e => by
      rw [upd_ne b2, upd_ne b1]
      exact e
    have m5 : Same F F5 := x05.mono
    have f5 : ∀ b xs o, F5 b = some (.lst xs) → F b = none → lastH F F5 b = some o → False := fun b xs o e1 e2 e3 => by
      obtain ⟨e4, e5⟩ := lastH_5 m5 e3
      rw [e1] at e4
      cases e4
      rcases e5 with e5 | e5
      · rw [e2] at e5; cases e5
      · exact last_lst e5
    have Fa1 : F a1 = none := so.ext.sub.none h01
    have Fa2 : F a2 = none := so.ext.sub.none hH2
    have xe : Ext F H (lastH F F5) (upd (upd H5 a1 (.lst (xs1 ++ [w]))) a2 (.lst [])) := by
      refine ⟨fun b o e => lastH_F e, fun b o e q => ?_, fun b o e => ?_⟩
      · have b1 : b ≠ a1 := fun z => by rw [z, h01] at q; cases q
        have b2 : b ≠ a2 := fun z => by rw [z, hH2] at q; cases q
        obtain ⟨e1, e2⟩ := x05.keep b o e q
        refine ⟨old b o b1 b2 e1, ?_⟩
        cases e3 : lastH F F5 b with
        | none => rfl
        | some o' =>
          have := (lastH_5 m5 e3).1
          rw [e2] at this
          cases this
      · have b1 : b ≠ a1 := fun z => by subst z; exact f5 _ _ _ (x35.mono _ _ g1) Fa1 e
        have b2 : b ≠ a2 := fun z => by subst z; exact f5 _ _ _ (x35.mono _ _ g2) Fa2 e
        obtain ⟨e4, _⟩ := lastH_5 m5 e
        exact (x05.sub b o e4).monoM (fun b' o' l e' => lastH_last m5 l e') fun u e' => old b u b1 b2 e'
    exact ⟨F0, H0, G, _, _, ⟨_, (so.step xe).setUn i (some (.ref a))⟩, q5, k⟩
end
end DV

namespace DV
open PySem PySem.Spec PyProof.Rows L2

/-! ### str of a number -/
end DV

namespace DV
open PySem PySem.Spec PyProof.Rows L2 PySem.SeqAt
/-! ### (d, n) == (e, m) where they are equal -/
end DV

namespace DV
open PySem PySem.Spec PyProof.Rows L2

/-! ### own lists: an item out, an item written, two items written -/
theorem RpA.set {K : PySem.W.Frag} {F : Hp} : ∀ {xs : List V} {ds : List D} (k : Nat) {v : V} {d : D}, RpA K F xs ds → Rp K F v d → RpA K F (xs.set k v) (ds.set k d)
  | _, _, _, _, _, .nil, _ => .nil
  | _, _, 0, _, _, .cons _ r, h => .cons h r
  | _, _, k + 1, _, _, .cons h0 r, h => .cons h0 (RpA.set k r h)
section
variable {X : Cx} {o e e2 ke : Expr} {t ti tv tk tl : DE} {apos cpos pos pos' : Pos}
end
end DV

namespace PySem
open Sem (wp)
open AutoSeq1 (wpAny_loadPart')
section
variable {prog : Program} {w : World} {A : Around} {E : Value → Shared → Prop} {s : Shared}
end
end PySem
namespace DV
open PySem PySem.Spec PyProof.Rows L2
end DV

namespace DV
open PySem PySem.Spec PyProof.Rows L2

/-! ### d.get(k, x) -/
section
variable {X : Cx} {pins : List (Addr × Obj)} {σ : St} {F H : Hp} {s : Shared}
end
section
variable {X : Cx} {o e f : Expr} {apos cpos : Pos} {td tk tx : DE}
end
end DV

namespace DV
open PySem PySem.Spec PyProof.Rows L2 PySem.SeqAt
/-! ### [d, e] != [d', e'] of dicts that are equal -/
section
open AutoSeq1 (wpAny_loadPart')
open MeetsSeq MeetsSeq2 MeetsSeq3 SeqRoads2
variable {prog : Program} {w : World}
end
end DV

namespace DV
open PySem PySem.Spec PyProof.Rows L2

/-! ### defs that may raise, hand back new things, and call such as make lambdas -/
section
variable {P : Program} {w : World} {K : PySem.W.Frag} {mg : Str → Option Value} {base : Heap}
end
section
variable {X : Cx} {W : WX} {k n : Nat} {a : Addr} {fd : FuncData} {ps ks : List Str} {sp : Sp} {x nm : Str} {p pos : Pos} {e : Expr} {es : List Expr} {kws : List Keyword} {t tk0 : TA} {g : List Value → List Value → List Value} {gV : List V → List V → List V}
end
section
variable {X : Cx} {W : WX} {e : Expr} {es : List Expr} {tr tz : DA} {pos p p2 : Pos} {nm : Str} {k n m : Nat} {f : DSpX} {T : List (Addr × Str)} {kws : List Keyword} {ks : List Str}
end
end DV

namespace DV
open PySem PySem.Spec PyProof.Rows L2

/-! ### {k: v}, k a tuple of numbers -/
section
variable {X : Cx} {ke ve : Expr} {pos : Pos} {tk tv : DE}
end
end DV

namespace DV
open PySem PySem.Spec PyProof.Rows L2

/-! ### x in a list or a tuple -/
end DV

namespace DV
open PySem PySem.Spec PyProof.Rows L2

/-! ### {key: value for .. in ..}, keys tuples of numbers too -/
section
variable {X : Cx} {pins : List (Addr × Obj)} {σ : L2.St} {F H : Hp} {s : Shared}
end
section
variable {X : Cx} {kx vx tg iter : Expr} {ifs : List Expr} {scope : Scope} {own : List (Str × Nat)} {pos : Pos}
end
section
variable {X : Cx} {kx vx tg iter : Expr} {ifs : List Expr} {scope : Scope} {own : List (Str × Nat)} {pos : Pos} {it : DI} {g : TG} {g' : DG} {tt : DT} {tk tv : DE}
end
end DV

namespace DV
open PySem PySem.Spec PyProof.Rows L2 LiI

/-! ### list(d.items()), d's keys flat or tuples of numbers -/
section
variable {X : Cx}
end
section
variable {X : Cx} {pins : List (Addr × Obj)} {σ : L2.St} {F H : Hp} {s : Shared}
end
section
variable {X : Cx} {e : Expr} {te : TE} {t : DE} {p apos cpos pos : Pos}
end
end DV

namespace DV
open PySem PySem.Spec PyProof.Rows L2

/-! ### isinstance(x, T), x a dict with tuples as keys too -/
section
variable {X : Cx} {e : Expr} {t : DE} {pos p : Pos}
end
end DV

namespace DV
open PySem PySem.Spec PyProof.Rows L2

/-! ### own classes of exceptions over LookupError -/
abbrev leMro : List Value := [.type "LookupError", .type "Exception", .type "BaseException", .type "object"]
/-- what the text says of such a class -/
structure OexL (K : PySem.W.Frag) (C : Addr) : Prop where
  cls : ∃ (nm q : Str) (N : Addr) (bs bm : List Value) (sn : List Str) (sub : List Value) (ab : Bool) (col : Option Bool) (dd : Option Addr) (k0 k1 k2 k3 k5 : Option Value),
    K.lookup C = some (excClassObj nm q C N bs bm true sn sub ab col dd k0 k1 k2 k3 k5 "LookupError.__new__") ∧ PySem.W.excTail leMro bm = true
  sa : PySem.W.findIn K (.ref C) "__setattr__" = some (some (.builtin "object.__setattr__"))
  exC : PySem.W.subIn K (.ref C) (.type "BaseException") = some true
  tyC : PySem.W.typeIn K (.ref C) = some (.type "type")
  kC : PySem.W.keepIn K (.ref C) = true
theorem OexL.has {bm : List Value} (h : PySem.W.excTail leMro bm = true) (Y : String) : bm.contains (.type Y) = leMro.contains (.type Y) := PySem.W.excTail_contains Y bm h
/-- its data -/
theorem OexL.data {K : PySem.W.Frag} {C : Addr} (T : OexL K C) : ∃ cd : ClassData, PySem.W.clsIn K C = some cd ∧ PySem.W.excOver K C leMro = true ∧ cd.hasDict = true := by
  obtain ⟨nm, q, N, bs, bm, sn, sub, ab, col, dd, k0, k1, k2, k3, k5, hC, hb⟩ := T.cls
  have e : PySem.W.clsIn K C = some { name := nm, bases := bs, mro := .ref C :: bm, ns := N, qualname := q, hasDict := true, slotNames := sn, subclasses := sub, abstract := ab, collection := col, hasDel := false } := by unfold PySem.W.clsIn; rw [hC] <;> rfl
  refine ⟨_, e, ?_, rfl⟩
  unfold PySem.W.excOver
  rw [e]
  show (decide (C = C) && PySem.W.excTail leMro bm) = true
  rw [hb]; simp
section
open Builtin Builtin.ObjectAttr
variable {P : Program} {w : World} {A : Around} {R : Result → Shared → Prop} {hp : Heap} {g : Array GenState} {d : Drawn} {t : Nat} {os : OsState} {K : PySem.W.Frag} {f : Str} {tk : Tok} {v : Value} {x C dx : Addr} {fv : Array Value}
end
section
variable {X : Cx} {pins : List (Addr × Obj)} {σ : St} {H : Hp} {s : Shared} {a C dx : Addr} {f : Str} {y : V} {u : Value} {fs : List (Str × V)} {Q : Unit → Shared → Prop} {E : Value → Shared → Prop} {A : Around}
end

/-! ### readings and rules -/
section
variable {X : Cx} {o e : Expr} {es : List Expr} {to te : TE} {ta : TA} {f : Str} {p p' p1 p2 pos : Pos}
end
section
variable {X : Cx} {e : Expr} {es : List Expr} {ta : TA} {p pos : Pos}
end

/-! ### what the __init__ of such classes promise -/
section
variable {P : Program} {w : World} {K : PySem.W.Frag} {mg : Str → Option Value} {base : Heap} {a : Addr} {fd : FuncData} {x qual : Str} {params : Arguments} {scope : Scope} {body : List Stmt}
end

/-! ### raise n(y) -/
section
variable {X : Cx} {W : WX} {e : Expr} {t : DE} {pos p : Pos} {n g : Str}
end

/-! ### by one Bool -/
end DV

namespace DV
open PySem PySem.Spec PyProof.Rows L2
/-! ### list * int -/
section
variable {X : Cx} {a b : Expr} {ta tb : DE} {pos : Pos}
end
end DV

namespace DV
open PySem PySem.Spec PyProof.Rows L2
/-! ### what is read while a list of one's own is lent: it may hold lists, but not the lent one -/
mutual
/-- numbers, texts, None, truth values, lists and tuples of such -/
def D.pl : D → Bool
  | .non => true
  | .bl _ => true
  | .int _ => true
  | .str _ => true
  | .tup ds => D.pls ds
  | .lst ds => D.pls ds
  | _ => false
def D.pls : List D → Bool
  | [] => true
  | d :: ds => D.pl d && D.pls ds
end
section
variable {X : Cx} {pins : List (Addr × Obj)} {σ : L2.St} {F H : Hp} {s : Shared}
end
section
variable {X : Cx} {e : Expr} {t : DE}
end
end DV

namespace DV
open PySem PySem.Spec PyProof.Rows L2
/-! ### for over data, whose body may raise -/
section
variable {X : Cx} {W : WX} {pos : Pos} {u : DSX}
end
end DV

namespace DV
open PySem PySem.Spec PyProof.Rows L2
/-! ### min, max of a list of alike data, with default= -/
theorem DpAll.get {K : PySem.W.Frag} {H : Hp} : ∀ {vs : List V} {ps : List PyData}, DpAll K H vs ps → vs.length = ps.length ∧ ∀ {i : Nat} {v : V} {p : PyData}, vs[i]? = some v → ps[i]? = some p → Dp K H v p
  | _, _, .nil => ⟨rfl, fun e => by simp at e⟩
  | _, _, .cons h r => ⟨by simp [(DpAll.get r).1], fun {i v p} e1 e2 => by
    cases i with
    | zero => simp at e1 e2; subst e1 e2; exact h
    | succ i => exact (DpAll.get r).2 (by simpa using e1) (by simpa using e2)⟩
section
variable {X : Cx} {e : Expr} {kws : List Keyword} {tr tk : DA} {p pos : Pos}
end
end DV

namespace DV
open PySem PySem.Spec PyProof.Rows L2
/-! ### a dict walked, its keys flat or tuples of numbers -/
section
variable {X : Cx} {pins : List (Addr × Obj)} {σ : L2.St} {H : Hp} {s : Shared} {d : Addr} {o : Obj}
end
section
variable {P : Program} {w : World} {K : PySem.W.Frag} {tg : Expr} {d : Addr} {o : Obj} {es : Array DictEntry} {ep : Nat}
end
section
variable {X : Cx} {tg e : Expr} {td : TE}
end
/-! ### s[i], s * n -/
def ixSD : D2 := fun x y Q => match x, y with
  | .str z, .int i => z.length ≤ sizeLine ∧ (match atI z.cps.toList i with
    | some c => Q (.str ⟨#[c]⟩)
    | none => False)
  | _, _ => False
theorem od_ixS {K : PySem.W.Frag} : OpD K rIxS ixSD := fun F H x y dx dy Q0 Q s rx ry q k => by
  cases dx <;> first | exact q.elim | skip
  cases dy <;> first | exact q.elim | skip
  rename_i z i
  obtain ⟨hl, q⟩ := q
  cases rx
  cases ry
  cases e : atI z.cps.toList i with
  | none => rw [e] at q; exact q.elim
  | some c =>
    rw [e] at q
    exact ⟨z, i, c, rfl, rfl, hl, e, k _ H F _ (.refl s) (.str _) q⟩
def repS (z : Str) (n : Int) : Str := if (n == 1 || z.length == 0) = true then z else ⟨(List.replicate n.toNat z.cps).foldl (· ++ ·) #[]⟩
def rRepS : R2 := fun x y H Q => ∃ z n, x = .str z ∧ y = .int n ∧ 1 ≤ n ∧ n ≤ 1000 ∧ z.length ≤ 1000 ∧ Q (.str (repS z n)) H
theorem op_repS {X : Cx} : OpR X (binaryOp .Mult) rRepS := by
  intro pins s σ H x y v u Q I rx ry ⟨z, n, ex, ey, h1, h2, h3, q⟩
  subst ex ey
  obtain ⟨t, rfl⟩ := rx
  obtain ⟨t', rfl⟩ := ry
  refine P.mul_str (by rw [decide_eq_false (by omega), decide_eq_false (by omega)]; rfl) (fun _ _ => ?_) (fun _ _ => ?_) ?_
  · have a1 : (1000 : Int) ≤ (2 ^ 63 - 1) / n := by
      rw [Int.le_ediv_iff_mul_le (by omega)]
      omega
    omega
  · have a1 : z.length * n.toNat ≤ 1000 * 1000 := Nat.mul_le_mul h3 (by omega)
    have a2 : sizeLine = 16777216 := sizeLine_eq
    show decide (z.length * n.toNat > sizeLine) = false
    exact decide_eq_false (by omega)
  · unfold repS at q
    rw [if_neg (by omega)]
    split
    · rename_i h
      rw [if_pos h] at q
      exact ⟨.str z, H, I, ⟨_, rfl⟩, q⟩
    · rename_i h
      rw [if_neg h] at q
      refine ⟨?_, .str _, H, I.tok _, ⟨_, rfl⟩, q⟩
      have a1 : z.length * n.toNat ≤ 1000 * 1000 := Nat.mul_le_mul h3 (by omega)
      have a2 : sizeLine = 16777216 := sizeLine_eq
      have a3 : ∀ (m : Nat) (acc : Array Nat), ((List.replicate m z.cps).foldl (· ++ ·) acc).size = acc.size + m * z.cps.size := fun m => by
        induction m with
        | zero => intro acc; simp
        | succ m ih =>
          intro acc
          rw [List.replicate_succ, List.foldl_cons, ih, Array.size_append, Nat.succ_mul]
          omega
      have a4 := a3 n.toNat #[]
      have a5 : z.cps.size * n.toNat ≤ 1000 * 1000 := a1
      rw [Nat.mul_comm] at a5
      show (List.foldl (fun x1 x2 => x1 ++ x2) #[] (List.replicate n.toNat z.cps)).size ≤ sizeLine
      rw [a4]
      simp only [List.size_toArray, List.length_nil]
      omega
section
variable {X : Cx} {a b : Expr} {ta tb : DE} {pos : Pos}
def mulSD : D2 := fun x y Q => match x, y with
  | .str z, .int n => (1 ≤ n ∧ n ≤ 1000 ∧ z.length ≤ 1000) ∧ Q (.str (repS z n))
  | _, _ => False
theorem od_mulS {K : PySem.W.Frag} : OpD K rRepS mulSD := fun F H x y dx dy Q0 Q s rx ry q k => by
  cases dx <;> first | exact q.elim | skip
  cases dy <;> first | exact q.elim | skip
  obtain ⟨⟨h1, h2, h3⟩, q⟩ := q
  cases rx
  cases ry
  exact ⟨_, _, rfl, rfl, h1, h2, h3, k _ H F _ (.refl s) (.str _) q⟩
theorem pd_mulS (ha : PD X a ta) (hb : PD X b tb) : PD X (.BinOp a .Mult b pos) (dOp mulSD ta tb) := pd_op op_repS od_mulS ha hb
theorem pd_itemS (ha : PD X a ta) (hb : PD X b tb) (hs : PlainIx b := by exact fun _ _ => rfl) : PD X (.Subscript a b pos) (dOp ixSD ta tb) := pd_ix ix_str od_ixS ha hb hs
end
end DV

namespace DV
open PySem PySem.Spec PyProof.Rows L2
/-! ### x, y = e, f: one value frozen, the other one's own -/
section
variable {X : Cx} {a b : Expr} {ta tb : DE} {pos : Pos}
end
end DV

namespace DV
open PySem PySem.Spec PyProof.Rows L2
/-! the readings of the defs, by canon.json -/
def c_causesO : DSp := fnO 8 1
  (sSeq (sSet 1 (dB sortedC (dCons (dVar 0) dNil))) (sSeq (sOwn 2 dNil) (sSeq (sFor (iEnumD (dCons (dVar 1) dNil)) (gT 2 (gsCons (gN 3) (gsCons (gN 4) gsNil))) (sSeq (sSet 5 (dOp ixKD (dVar 0) (dVar 4))) (sSeq (sAppend 2 (dTup (dCons (dSl (dVar 5) dNo (dPart (dC (.int 2)))) (dCons (dTup (dCons (dC (.str "end")) (dCons (dVar 4) (dCons (dC (.int 0)) dNil)))) dNil)))) (sSeq (sAppend 2 (dTup (dCons (dSl (dVar 5) (dPart (dC (.int 2))) dNo) (dCons (dTup (dCons (dC (.str "end")) (dCons (dVar 4) (dCons (dC (.int 1)) dNil)))) dNil)))) (sFor (iSeq (dSl (dVar 1) (dPart (dOp addD (dVar 3) (dC (.int 1)))) dNo)) (gN 6) (sSeq (sSet 7 (dCall c_meet [] (dCons (dVar 5) (dCons (dOp ixKD (dVar 0) (dVar 6)) dNil)))) (sIf (dAnd (dTest (dOp notNonD (dVar 7) (dC .non))) (dTest (dOp eqD (dOp ixD (dVar 7) (dC (.int 0))) (dC (.str "at"))))) (sAppend 2 (dTup (dCons (dCall c_square_of [] (dCons (dOp ixD (dVar 7) (dC (.int 1))) dNil)) (dCons (dTup (dCons (dC (.str "cross")) (dCons (dVar 4) (dCons (dVar 6) dNil)))) dNil)))) sNext))))))) (sFrz 2 (sRetO (dB sortedC (dCons (dVar 2) dNil)))))))
def c_whyO : DSp := fnO 4 2
  (sRetO (dLc (iSeq (dCall c_causesO [] (dCons (dVar 0) dNil))) (gT 2 (gsCons (gN 2) (gsCons (gN 3) gsNil))) (dTest (dOp eqD (dVar 2) (dVar 1))) (dVar 3) [2, 3]))
def c_hotO : DSp := fnO 3 1
  (sRetO (dSortN (iSeq (dCall c_causesO [] (dCons (dVar 0) dNil))) (gT 2 (gsCons (gN 1) (gsCons (gN 2) gsNil))) dYes (dVar 1) [1, 2]))
def c_law_k11 : DSp := fnD 15 1
  (sSeq (sSet 1 (dCall bagD [] (dCons (dVar 0) dNil))) (sSeq (sFor (iRng1D (dCons (dC (.int 2)) dNil)) (gN 2) (sSeq (sSet 3 (dCall c_law_strokes [] (dCons (dVar 1) (dCons (dOp ixD (dLst (dCons (dCall pullD [] (dCons (dVar 1) (dCons (dC (.int 9)) dNil))) (dCons (dOp addD (dC (.int 17)) (dCall pullD [] (dCons (dVar 1) (dCons (dC (.int 16)) dNil)))) dNil))) (dB intC (dCons (dOp eqD (dCall pullD [] (dCons (dVar 1) (dCons (dC (.int 4)) dNil))) (dC (.int 0))) dNil))) dNil)))) (sSeq (sSet 4 (dB dictC (dCons (dLc (iRng1D (dCons (dB lenD (dCons (dVar 3) dNil)) dNil)) (gN 12) dYes (dTup (dCons (dOp mulSD (dOp ixSD (dC (.str "abcdefgh")) (dOp modD (dVar 12) (dC (.int 8)))) (dOp addD (dC (.int 1)) (dOp fdivD (dVar 12) (dC (.int 8))))) (dCons (dOp ixD (dVar 3) (dVar 12)) dNil))) [12]) dNil))) (sSeq (sPar 8 9 (dCons (dB dictK (dCons (dVar 4) dNil)) (dCons (dCall c_law_causes [] (dCons (dVar 4) dNil)) dNil))) (sSeq (sFor (iRng1D (dCons (dC (.int 2)) dNil)) (gN 5) (sSeq (sNest 10 (dCall c_causesO [] (dCons (dVar 8) dNil)) (dCall c_hotO [] (dCons (dVar 8) dNil)) (dOr (dNot (dTest (dCall (c_law_like 8) [] (dCons (dVar 10) (dCons (dLst (dCons (dVar 9) (dCons (dCall c_law_hot [] (dCons (dVar 4) dNil)) dNil))) dNil))))) (dTest (dOp neKD (dVar 8) (dVar 4)))) (sRet (dC (.bl false))) (dTup (dCons (dTup (dCons (dC (.int 0)) (dCons (dC (.int 0)) dNil))) (dCons (dTup (dCons (dC (.str "end")) (dCons (dC (.str "a")) (dCons (dC (.int 0)) dNil)))) dNil)))) sNext)) (sSeq (sSet 6 (dOp addD (dCall c_law_hot [] (dCons (dVar 4) dNil)) (dLst (dCons (dCall c_law_spot [] (dCons (dVar 1) (dCons (dTup (dCons (dC (.int 0)) (dCons (dC (.int 0)) dNil))) (dCons (dC (.int 40)) dNil)))) dNil)))) (sFor (iSeq (dLst (dCons (dCall c_law_of [] (dCons (dVar 1) (dCons (dVar 6) dNil))) (dCons (dCall c_law_of [] (dCons (dVar 1) (dCons (dVar 6) dNil))) (dCons (dOp ixD (dVar 6) (dUn negD (dC (.int 1)))) dNil))))) (gN 7) (sSeq (sSetO 11 (dCall c_whyO [] (dCons (dVar 8) (dCons (dVar 7) dNil)))) (sSeq (sIf (dBorT 11 (dNot (dTest (dCall (c_law_like 8) [] (dCons (dVar 11) (dCons (dLc (iSeq (dVar 9)) (gT 2 (gsCons (gN 13) (gsCons (gN 14) gsNil))) (dTest (dOp eqD (dVar 13) (dVar 7))) (dVar 14) [13, 14]) dNil)))))) (sRet (dC (.bl false))) sNext) (sSeq (sAppend 11 (dTup (dCons (dC (.str "end")) (dCons (dC (.str "a")) (dCons (dC (.int 0)) dNil))))) (sFrz 11 (sIf (dTest (dOp eqD (dCall c_whyO [] (dCons (dVar 8) (dCons (dVar 7) dNil))) (dVar 11))) (sRet (dC (.bl false))) sNext)))))))))))) (sRet (dAndV (dOp eqD (dCall c_causesO [] (dCons dD0 dNil)) (dLst dNil)) (dOp eqD (dCall c_hotO [] (dCons dD0 dNil)) (dLst dNil))))))
end DV

namespace K11
open PySem PySem.Spec PyProof.Rows L2 DV
/-! ### the text -/
def topS (i : Nat) : Stmt := PySem.Challenge.pw_dotmoor_k11_what_makes_a_square_hot.main.body.getD i (.Pass ⟨0, 0, 0, 0⟩)
abbrev s_greatest : Stmt := topS 4
abbrev s_lowest : Stmt := topS 5
abbrev s_plus : Stmt := topS 6
abbrev s_below : Stmt := topS 7
abbrev s_nearest : Stmt := topS 8
abbrev s_square_of : Stmt := topS 10
abbrev s_common : Stmt := topS 11
abbrev s_meet : Stmt := topS 12
abbrev s_causes : Stmt := topS 14
abbrev s_hot : Stmt := topS 15
abbrev s_why : Stmt := topS 16
abbrev s_law_bag : Stmt := topS 18
abbrev s_law_pull : Stmt := topS 19
abbrev s_law_of : Stmt := topS 20
abbrev s_law_like : Stmt := topS 21
abbrev s_law_common : Stmt := topS 22
abbrev s_law_low : Stmt := topS 23
abbrev s_law_near : Stmt := topS 24
abbrev s_law_clipped : Stmt := topS 25
abbrev s_law_spot : Stmt := topS 26
abbrev s_law_base : Stmt := topS 27
abbrev s_law_stroke : Stmt := topS 28
abbrev s_law_beside : Stmt := topS 29
abbrev s_law_posts : Stmt := topS 30
abbrev s_law_strokes : Stmt := topS 31
abbrev s_law_cross : Stmt := topS 32
abbrev s_law_meet : Stmt := topS 33
abbrev s_law_causes : Stmt := topS 34
abbrev s_law_hot : Stmt := topS 35
abbrev s_law : Stmt := topS 36
/-- names that the text leaves free, its constants -/
structure Bf (mg : Str → Option Value) : Prop where
  b_abs : mg "abs" = none
  b_all : mg "all" = none
  b_bool : mg "bool" = none
  b_dict : mg "dict" = none
  b_enumerate : mg "enumerate" = none
  b_int : mg "int" = none
  b_isinstance : mg "isinstance" = none
  b_len : mg "len" = none
  b_list : mg "list" = none
  b_max : mg "max" = none
  b_min : mg "min" = none
  b_range : mg "range" = none
  b_sorted : mg "sorted" = none
  b_tuple : mg "tuple" = none
/-! ### the law's draws, by hand -/
abbrev n_law_bag : List Str := ["_law_script", "_law_salt", "_law_cell"]
theorem sc_law_bag : FnScope n_law_bag ["_law_script"] (defScope s_law_bag) := ⟨rfl, rfl, rfl, by decide +kernel, rfl, by decide +kernel, by decide +kernel⟩
theorem int_at {ns : List Int} {i : Nat} {y : V} (h : (ns.map V.int)[i]? = some y) : ∃ z, ns[i]? = some z ∧ y = .int z := by
  rw [List.getElem?_map] at h
  cases e : ns[i]? with
  | none => rw [e] at h; cases h
  | some z => rw [e] at h; exact ⟨z, rfl, (Option.some.inj h).symm⟩
theorem cut63 {xs : List V} (h : xs.length ≤ 63) : cutV xs none (some 63) = xs := by
  unfold cutV
  rw [HT.sIx_none, show HT.sIx xs.length xs.length (some 63) = min 63 xs.length from HT.sIx_nat xs.length xs.length 63, List.drop_zero]
  exact List.take_of_length_le (by omega)
theorem ok_law_bag {P : Program} {w : World} {K : PySem.W.Frag} {mg : Str → Option Value} {base : Heap} {a : Addr} {fd : FuncData} {dvs : List V} (B : Bf mg) (F : FunD K "_law_bag" "_law_bag" (defArgs s_law_bag) (defBody s_law_bag) (defScope s_law_bag) dvs [] a fd) :
    FnOk P w K mg base CX0 1 a fd ["_law_script"] (spD K bagD) := by
  refine F.ok sc_law_bag (fun vs H Q E h => ?_) (fun cdv A outer s H vs Q E hr h => ⟨_, PSs.nox (pss_cons (ps_set (i := 1) sc_law_bag.nd rfl (.inl rfl) pe_int) (pss_cons
    (ps_for PassesOwn.never rfl (pi_list (pe_slice sl_list (pv 0) po_none (po_some pe_int))) (pg_name (i := 2) sc_law_bag.nd rfl (.inl rfl))
      (pss_one (ps_set (i := 1) sc_law_bag.nd rfl (.inl rfl) (pe_op op_modN (pe_op op_add (pe_op op_add (pe_op op_mul (pv 1) pe_int) (pe_op op_modN (pv 2) pe_int)) pe_int) pe_int))))
    (pss_one (ps_ret (pe_lst (pa_cons (pe_callTy call_list_of (by rfl) B.b_list (by decide +kernel) (pa_cons (pe_slice sl_list (pv 0) po_none (po_some pe_int)) pa_nil)) (pa_cons pe_int (pa_cons pe_int (pa_cons (pv 1) pa_nil))))))))), ?_⟩)
  · obtain ⟨F, ds, Q0, _, r, h, _⟩ := h
    rw [r.length, h.1]; rfl
  · obtain ⟨F0, ds, Q0, sb, r, ⟨rfl, h⟩, q⟩ := h
    obtain ⟨x, rfl⟩ : ∃ x, vs = [x] := by
      cases r with
      | cons r1 r2 => cases r2; exact ⟨_, rfl⟩
    cases r with
    | cons r1 r2 =>
    cases r1 with
    | scr hS hl =>
    rename_i c ns
    have hl2 : (ns.map V.int).length ≤ 63 := by simpa using hl
    refine ⟨_, rfl, 63, rfl, c, ns.map V.int, rfl, sb.seqL hS, fun p1 np1 => ⟨p1, rfl, ⟨_, .of upd_same⟩, ?_⟩⟩
    refine for_list (K := K) (a := p1) (xs := cutV (ns.map V.int) none (some 63)) (fun i σ H' => ∃ (salt : Int) (x2 : Option V), σ = [some (.ref c), some (.int salt), x2] ∧ H' = upd H p1 (.lst (cutV (ns.map V.int) none (some 63)))) ⟨9117, none, rfl, rfl⟩ (fun i σ H' _ ⟨_, _, _, e⟩ => e ▸ .of upd_same) ?_ ?_
    · rintro i y σ H' hi ⟨salt, x2, rfl, rfl⟩
      rw [cut63 hl2] at hi
      obtain ⟨z, _, rfl⟩ := int_at hi
      exact ⟨.int salt, rfl, _, _, rfl, rfl, .inr (by decide), .int z, rfl, _, _, rfl, rfl, (by dsimp only; decide), _, _, rfl, rfl, _, _, rfl, rfl, _, _, rfl, rfl, (by dsimp only; decide), _, _, rfl, rfl⟩
    · rintro σ H' ⟨salt, x2, rfl, rfl⟩
      have np1c : ∀ (b : Addr) o, F0 b = some o → b ≠ p1 := fun b o e z => by
        have := sb.none np1
        rw [← z, e] at this; cases this
      have x1 : Ext F0 H F0 (upd H p1 (.lst (cutV (ns.map V.int) none (some 63)))) := Ext.newO sb np1
      refine ⟨_, rfl, 63, rfl, c, ns.map V.int, rfl, x1.sub.seqL hS, fun p2 np2 => ?_⟩
      have x2 := x1.trans (Ext.newO (o := .lst (cutV (ns.map V.int) none (some 63))) x1.sub np2)
      refine ⟨p2, _, rfl, .inl (.of upd_same), fun p3 np3 => ?_⟩
      have hp3 := x2.sub.none np3
      have x3 := x2.trans (Ext.newO (o := .lst (cutV (ns.map V.int) none (some 63))) x2.sub np3)
      refine ⟨_, rfl, by show 4 ≤ sizeLine; decide, fun b nb => ?_⟩
      have hb3 := x3.sub.none nb
      have hbp : p3 ≠ b := fun z => by rw [← z, upd_same] at nb; cases nb
      refine q (.ref b) _ (upd (upd F0 p3 Mark2) b Mark) .bag ⟨fun d o e => ?_, fun d o e z => ?_, fun d o e => ?_⟩ (.bag upd_same) h
      · rw [upd_ne (ne_of_none e hb3), upd_ne (ne_of_none e hp3)]; exact e
      · obtain ⟨k1, k2⟩ := x3.keep d o e z
        obtain ⟨k3, _⟩ := x2.keep d o e z
        have hd : d ≠ b := ne_of_none k1 nb
        have hd2 : d ≠ p3 := ne_of_none k3 np3
        exact ⟨by rw [upd_ne hd]; exact k1, by rw [upd_ne hd, upd_ne hd2]; exact k2⟩
      · by_cases hd : d = b
        · subst hd
          rw [upd_same] at e; cases e
          refine Stands.ofBag ⟨p3, 0, 0, salt, ?_, upd_same⟩
          rw [upd_ne hbp, upd_same]
        · rw [upd_ne hd] at e
          by_cases hd2 : d = p3
          · subst hd2
            rw [upd_same] at e; cases e
            refine Stands.ofScp ⟨ns, ?_, by omega⟩
            rw [upd_ne hd, upd_same, cut63 hl2]
          · rw [upd_ne hd2] at e
            exact (x3.sub d o e).mono (fun g y z => by rw [upd_ne (ne_of_none z hb3), upd_ne (ne_of_none z hp3)]; exact z) fun u z => by rw [upd_ne hd]; exact z

abbrev n_law_pull : List Str := ["_law_bag_here", "_law_amount", "_law_cell", "_law_got", "_law_seed"]
theorem sc_law_pull : FnScope n_law_pull ["_law_bag_here", "_law_amount"] (defScope s_law_pull) := ⟨rfl, rfl, rfl, by decide +kernel, rfl, by decide +kernel, by decide +kernel⟩
def bagL (a : Addr) (p : Nat) (big salt : Int) : HO := .lst [.ref a, .int p, .int big, .int salt]
def tFirst : TS := fun D σ H => ∃ (b : Addr) (n : Int) (a : Addr) (ns : List Int) (p : Nat) (big salt : Int), σ = [some (.ref b), some (.int n), none, none, none] ∧ H b = some (bagL a p big salt) ∧ H a = some (.lst (ns.map V.int)) ∧
  ∀ (x2 : Option V) (p' : Nat) (big' salt' : Int), D.nx [some (.ref b), some (.int n), x2, none, none] (upd H b (bagL a p' big' salt'))
def tRest : TS := fun D σ H => ∃ (b : Addr) (n : Int) (a : Addr) (p : Nat) (big salt : Int) (x2 : Option V), σ = [some (.ref b), some (.int n), x2, none, none] ∧ H b = some (bagL a p big salt) ∧ 0 < n ∧ DivOk n ∧
  ∀ (r big' salt' : Int), 0 ≤ r → r < n → D.rt (.int r) (upd H b (bagL a p big' salt'))
theorem upd_self {H : Hp} {a : Addr} {o : HO} (h : H a = some o) : upd H a o = H := by
  funext b
  by_cases e : b = a
  · subst e; rw [upd_same, h]
  · rw [upd_ne e]
theorem fmod_in {i n : Int} (h : 0 < n) : 0 ≤ i.fmod n ∧ i.fmod n < n := by
  rw [Int.fmod_eq_emod_of_nonneg i (by omega)]
  exact ⟨Int.emod_nonneg i (by omega), Int.emod_lt_of_pos i h⟩
theorem ok_law_pull {P : Program} {w : World} {K : PySem.W.Frag} {mg : Str → Option Value} {base : Heap} {a : Addr} {fd : FuncData} {dvs : List V} (B : Bf mg) (F : FunD K "_law_pull" "_law_pull" (defArgs s_law_pull) (defBody s_law_pull) (defScope s_law_pull) dvs [] a fd) :
    FnOk P w K mg base CX0 1 a fd ["_law_bag_here", "_law_amount"] (spD K pullD) := by
  refine F.ok sc_law_pull (fun vs H Q E h => ?_) (fun cdv A outer s H vs Q E hr h => ⟨_, PSs.nox (pss_cons (PS.impD (t' := tFirst) (ps_if (PW.pt (pw_and (pt_cmpR op_eq (pe_ix ix_list (pv 0) pe_int (fun _ _ => rfl)) pe_int (nomark _))
      (pw_and1 (pt_cmpR op_lt (pe_ix ix_list (pv 0) pe_int (fun _ _ => rfl)) (pe_callB call_len_seq (by rfl) B.b_len boot_len (pa_cons (pe_ix ix_list (pv 0) pe_int (fun _ _ => rfl)) pa_nil)) (nomark _)))))
    (pss_cons (ps_set (i := 2) sc_law_pull.nd rfl (.inl rfl) (pe_ix ix_list (pe_ix ix_list (pv 0) pe_int (fun _ _ => rfl)) (pe_ix ix_list (pv 0) pe_int (fun _ _ => rfl)) (fun _ _ => rfl)))
    (pss_cons (ps_asg (pe_op op_add (pe_ix ix_list (pv 0) pe_int (fun _ _ => rfl)) pe_int) (pg_sub (pv 0) pe_int set_list))
    (pss_one (ps_if (pt_cmpR op_ge (pv 2) (pe_op op_pow pe_int pe_int) (nomark _)) (pss_one (ps_asg (pv 2) (pg_sub (pv 0) pe_int set_list)))
      (pss_one (ps_asg (pe_op op_modN (pe_op op_add (pe_op op_add (pe_op op_mul (pe_ix ix_list (pv 0) pe_int (fun _ _ => rfl)) pe_int) (pe_op op_mul (pe_op op_modN (pv 2) pe_int) pe_int)) pe_int) pe_int) (pg_sub (pv 0) pe_int set_list)))))))
    pss_nil) ?first)
   (PSs.impD (t' := tRest) (pss_cons (ps_if (pt_cmpR op_gt (pe_ix ix_list (pv 0) pe_int (fun _ _ => rfl)) pe_int (nomark _))
      (pss_cons (ps_set (i := 3) sc_law_pull.nd rfl (.inl rfl) (pe_op op_modN (pe_ix ix_list (pv 0) pe_int (fun _ _ => rfl)) (pv 1)))
      (pss_cons (ps_asg (pe_op op_fdivA (pe_ix ix_list (pv 0) pe_int (fun _ _ => rfl)) (pv 1)) (pg_sub (pv 0) pe_int set_list)) (pss_one (ps_ret (pv 3))))) pss_nil)
    (pss_cons (ps_set (i := 4) sc_law_pull.nd rfl (.inl rfl) (pe_ix ix_list (pv 0) pe_int (fun _ _ => rfl)))
    (pss_cons (ps_asg (pe_op op_modN (pe_op op_add (pe_op op_add (pe_op op_mul (pv 4) pe_int) (pe_op op_mul (pe_op op_fdivA (pv 4) pe_int) pe_int)) pe_int) pe_int) (pg_sub (pv 0) pe_int set_list))
    (pss_one (ps_ret (pe_op op_modN (pe_op op_add (pe_op op_fdivA (pe_ix ix_list (pv 0) pe_int (fun _ _ => rfl)) pe_int) (pe_op op_mul (pe_op op_modN (pe_ix ix_list (pv 0) pe_int (fun _ _ => rfl)) pe_int) pe_int)) (pv 1))))))) ?rest)), ?_⟩)
  case first =>
    intro N σ H h
    obtain ⟨b, n, a, ns, p, big, salt, rfl, hb, ha, k⟩ := h
    have keep : ∀ x2, N.nx [some (.ref b), some (.int n), x2, none, none] H := fun x2 => by
      have := k x2 p big salt
      rwa [upd_self hb] at this
    have nab : a ≠ b := ne_of ha hb (by intro z; unfold bagL at z; injection z with z; cases ns <;> cases z)
    refine ⟨.ref b, rfl, _, _, _, _, rfl, rfl, .of hb, rfl, rfl, _, rfl, ite2 (fun _ => ?_) (fun _ => ?_)⟩
    · refine ⟨.ref b, rfl, _, _, _, _, rfl, rfl, .of hb, rfl, .ref b, rfl, _, _, _, _, rfl, rfl, .of hb, rfl, _, _, rfl, .inl (.of ha), _, _, rfl, rfl, _, rfl, ite2 (fun c => ?_) (fun _ => ?_)⟩
      · have c' : (p : Int) < (ns.map V.int).length := of_decide_eq_true c
        have hp : p < ns.length := by
          rw [List.length_map] at c'
          omega
        have e1 : atI (ns.map V.int) (p : Int) = some (.int ns[p]) := atI_nat (by rw [List.getElem?_map, List.getElem?_eq_getElem hp]; rfl)
        refine ⟨.ref b, rfl, _, _, _, _, rfl, rfl, .of hb, rfl, .ref b, rfl, _, _, _, _, rfl, rfl, .of hb, rfl, _, _, _, _, rfl, rfl, .of ha, e1, ?_⟩
        refine ⟨.ref b, rfl, _, _, _, _, rfl, rfl, .of hb, rfl, _, _, rfl, rfl, .ref b, rfl, _, _, _, _, rfl, rfl, hb, rfl, ?_⟩
        refine ⟨.int ns[p], rfl, _, _, rfl, rfl, ⟨by decide, by decide, by decide⟩, _, _, rfl, rfl, _, rfl, ite2 (fun _ => ?_) (fun _ => ?_)⟩
        · refine ⟨.int ns[p], rfl, .ref b, rfl, _, _, _, _, rfl, rfl, upd_same, rfl, ?_⟩
          rw [upd_upd]
          exact k _ (p + 1) ns[p] salt
        · refine ⟨.ref b, rfl, _, _, _, _, rfl, rfl, .of upd_same, rfl, _, _, rfl, rfl, .inr (by decide), .int ns[p], rfl, _, _, rfl, rfl, (by dsimp only; decide), _, _, rfl, rfl, .inr (by decide), _, _, rfl, rfl, _, _, rfl, rfl, _, _, rfl, rfl, (by dsimp only; decide), .ref b, rfl, _, _, _, _, rfl, rfl, upd_same, rfl, ?_⟩
          rw [upd_upd]
          exact k _ (p + 1) big _
      · exact keep _
    · exact keep _
  case rest =>
    intro N σ H h
    obtain ⟨b, n, a, p, big, salt, x2, rfl, hb, hn, hd, k⟩ := h
    refine ⟨.ref b, rfl, _, _, _, _, rfl, rfl, .of hb, rfl, _, _, rfl, rfl, _, rfl, ite2 (fun _ => ?_) (fun _ => ?_)⟩
    · refine ⟨.ref b, rfl, _, _, _, _, rfl, rfl, .of hb, rfl, .int n, rfl, _, _, rfl, rfl, hd.1, ?_⟩
      refine ⟨.ref b, rfl, _, _, _, _, rfl, rfl, .of hb, rfl, .int n, rfl, _, _, rfl, rfl, hd, .ref b, rfl, _, _, _, _, rfl, rfl, hb, rfl, _, rfl, ?_⟩
      exact k _ _ salt (fmod_in hn).1 (fmod_in hn).2
    · refine ⟨.ref b, rfl, _, _, _, _, rfl, rfl, .of hb, rfl, ?_⟩
      refine ⟨.int salt, rfl, _, _, rfl, rfl, .inr (by decide), .int salt, rfl, _, _, rfl, rfl, ⟨by decide, by decide +kernel⟩, _, _, rfl, rfl, .inr (by decide), _, _, rfl, rfl, _, _, rfl, rfl, _, _, rfl, rfl, (by dsimp only; decide), .ref b, rfl, _, _, _, _, rfl, rfl, hb, rfl, ?_⟩
      refine ⟨.ref b, rfl, _, _, _, _, rfl, rfl, .of upd_same, rfl, _, _, rfl, rfl, ⟨by decide, by decide +kernel⟩, .ref b, rfl, _, _, _, _, rfl, rfl, .of upd_same, rfl, _, _, rfl, rfl, (by dsimp only; decide), _, _, rfl, rfl, .inr (by decide), _, _, rfl, rfl, .int n, rfl, _, _, rfl, rfl, hd.1, ?_⟩
      exact k _ big _ (fmod_in hn).1 (fmod_in hn).2
  · obtain ⟨F, ds, Q0, _, r, h, _⟩ := h
    obtain ⟨n, rfl, _⟩ := h
    rw [r.length]; rfl
  · obtain ⟨F0, ds, Q0, sb, r, ⟨n, rfl, hn, hn2, h⟩, q⟩ := h
    obtain ⟨b, rfl⟩ : ∃ b, vs = [.ref b, .int n] := by
      cases r with
      | cons r1 r2 =>
        cases r2 with
        | cons r2 r3 =>
          cases r3; cases r1; cases r2; exact ⟨_, rfl⟩
    cases r with
    | cons r1 r2 =>
    cases r1 with
    | bag hm =>
    obtain ⟨c, p, big, salt, hF, hb⟩ := (sb b _ hm).bag
    obtain ⟨ns, hc, hl⟩ := (sb c _ hF).scp
    refine ⟨b, n, c, ns, p, big, salt, rfl, hb, hc, fun x2 p' big' salt' => ?_⟩
    refine ⟨b, n, c, p', big', salt', x2, rfl, upd_same, hn, hn2, fun r big2 salt2 r0 r1 => ?_⟩
    · rw [upd_upd]
      refine q (.int r) _ F0 (.int r) ⟨Same.refl F0, fun d o e z => ?_, fun d o e => ?_⟩ (.int r) (h r r0 r1)
      · have hd : d ≠ b := fun y => by rw [y, hm] at e; cases e
        rw [upd_ne hd]; exact ⟨z, e⟩
      · by_cases hd : d = b
        · subst hd
          rw [hm] at e; cases e
          exact Stands.ofBag ⟨c, p', big2, salt2, hF, upd_same⟩
        · exact (sb d o e).mono (Same.refl F0) fun u y => by rw [upd_ne hd]; exact y

/-! ### the defs: names, scopes -/
abbrev n_greatest : List Str := ["one", "other"]
theorem sc_greatest : FnScope n_greatest ["one", "other"] (defScope s_greatest) := ⟨rfl, rfl, rfl, by decide +kernel, rfl, by decide +kernel, by decide +kernel⟩
abbrev n_lowest : List Str := ["over", "under", "both"]
theorem sc_lowest : FnScope n_lowest ["over", "under"] (defScope s_lowest) := ⟨rfl, rfl, rfl, by decide +kernel, rfl, by decide +kernel, by decide +kernel⟩
abbrev n_plus : List Str := ["one", "other"]
theorem sc_plus : FnScope n_plus ["one", "other"] (defScope s_plus) := ⟨rfl, rfl, rfl, by decide +kernel, rfl, by decide +kernel, by decide +kernel⟩
abbrev n_below : List Str := ["one", "other"]
theorem sc_below : FnScope n_below ["one", "other"] (defScope s_below) := ⟨rfl, rfl, rfl, by decide +kernel, rfl, by decide +kernel, by decide +kernel⟩
abbrev n_nearest : List Str := ["one"]
theorem sc_nearest : FnScope n_nearest ["one"] (defScope s_nearest) := ⟨rfl, rfl, rfl, by decide +kernel, rfl, by decide +kernel, by decide +kernel⟩
abbrev n_square_of : List Str := ["place"]
theorem sc_square_of : FnScope n_square_of ["place"] (defScope s_square_of) := ⟨rfl, rfl, rfl, by decide +kernel, rfl, by decide +kernel, by decide +kernel⟩
abbrev n_common : List Str := ["one", "other", "low", "high"]
theorem sc_common : FnScope n_common ["one", "other"] (defScope s_common) := ⟨rfl, rfl, rfl, by decide +kernel, rfl, by decide +kernel, by decide +kernel⟩
abbrev n_meet : List Str := ["one", "other", "whole", "when", "then", "x", "dx", "dy", "ex", "ey", "wx", "wy"]
theorem sc_meet : FnScope n_meet ["one", "other"] (defScope s_meet) := ⟨rfl, rfl, rfl, by decide +kernel, rfl, by decide +kernel, by decide +kernel⟩
abbrev n_causes : List Str := ["heap", "names", "found", "at", "name", "stroke", "other", "told"]
theorem sc_causes : FnScope n_causes ["heap"] (defScope s_causes) := ⟨rfl, rfl, rfl, by decide +kernel, rfl, by decide +kernel, by decide +kernel⟩
abbrev n_hot : List Str := ["heap", "spot", "cause"]
theorem sc_hot : FnScope n_hot ["heap"] (defScope s_hot) := ⟨rfl, rfl, rfl, by decide +kernel, rfl, by decide +kernel, by decide +kernel⟩
abbrev n_why : List Str := ["heap", "spot", "at", "cause"]
theorem sc_why : FnScope n_why ["heap", "spot"] (defScope s_why) := ⟨rfl, rfl, rfl, by decide +kernel, rfl, by decide +kernel, by decide +kernel⟩
abbrev n_law_of : List Str := ["_law_bag_here", "_law_things"]
theorem sc_law_of : FnScope n_law_of ["_law_bag_here", "_law_things"] (defScope s_law_of) := ⟨rfl, rfl, rfl, by decide +kernel, rfl, by decide +kernel, by decide +kernel⟩
abbrev n_law_like : List Str := ["_law_found", "_law_due", "_law_k"]
theorem sc_law_like : FnScope n_law_like ["_law_found", "_law_due"] (defScope s_law_like) := ⟨rfl, rfl, rfl, by decide +kernel, rfl, by decide +kernel, by decide +kernel⟩
abbrev n_law_common : List Str := ["_law_one", "_law_other"]
theorem sc_law_common : FnScope n_law_common ["_law_one", "_law_other"] (defScope s_law_common) := ⟨rfl, rfl, rfl, by decide +kernel, rfl, by decide +kernel, by decide +kernel⟩
abbrev n_law_low : List Str := ["_law_over", "_law_under", "_law_both"]
theorem sc_law_low : FnScope n_law_low ["_law_over", "_law_under"] (defScope s_law_low) := ⟨rfl, rfl, rfl, by decide +kernel, rfl, by decide +kernel, by decide +kernel⟩
abbrev n_law_near : List Str := ["_law_part"]
theorem sc_law_near : FnScope n_law_near ["_law_part"] (defScope s_law_near) := ⟨rfl, rfl, rfl, by decide +kernel, rfl, by decide +kernel, by decide +kernel⟩
abbrev n_law_clipped : List Str := ["_law_number"]
theorem sc_law_clipped : FnScope n_law_clipped ["_law_number"] (defScope s_law_clipped) := ⟨rfl, rfl, rfl, by decide +kernel, rfl, by decide +kernel, by decide +kernel⟩
abbrev n_law_spot : List Str := ["_law_bag_here", "_law_base_here", "_law_wide", "_law_x"]
theorem sc_law_spot : FnScope n_law_spot ["_law_bag_here", "_law_base_here", "_law_wide"] (defScope s_law_spot) := ⟨rfl, rfl, rfl, by decide +kernel, rfl, by decide +kernel, by decide +kernel⟩
abbrev n_law_base : List Str := ["_law_bag_here", "_law_far"]
theorem sc_law_base : FnScope n_law_base ["_law_bag_here"] (defScope s_law_base) := ⟨rfl, rfl, rfl, by decide +kernel, rfl, by decide +kernel, by decide +kernel⟩
abbrev n_law_stroke : List Str := ["_law_bag_here", "_law_base_here", "_law_wide", "_law_one", "_law_other"]
theorem sc_law_stroke : FnScope n_law_stroke ["_law_bag_here", "_law_base_here", "_law_wide"] (defScope s_law_stroke) := ⟨rfl, rfl, rfl, by decide +kernel, rfl, by decide +kernel, by decide +kernel⟩
abbrev n_law_beside : List Str := ["_law_bag_here", "_law_base_here", "_law_wide", "_law_some", "_law_fresh", "_law_how", "_law_other", "_law_x", "_law_y"]
theorem sc_law_beside : FnScope n_law_beside ["_law_bag_here", "_law_base_here", "_law_wide", "_law_some"] (defScope s_law_beside) := ⟨rfl, rfl, rfl, by decide +kernel, rfl, by decide +kernel, by decide +kernel⟩
abbrev n_law_posts : List Str := ["_law_bag_here", "_law_many", "_law_found", "_law_k", "_law_far", "_law_up", "_law_x", "_law_y", "_law_low_here", "_law_at", "_law_side"]
theorem sc_law_posts : FnScope n_law_posts ["_law_bag_here", "_law_many"] (defScope s_law_posts) := ⟨rfl, rfl, rfl, by decide +kernel, rfl, by decide +kernel, by decide +kernel⟩
abbrev n_law_strokes : List Str := ["_law_bag_here", "_law_many", "_law_found", "_law_base_here", "_law_wide"]
theorem sc_law_strokes : FnScope n_law_strokes ["_law_bag_here", "_law_many"] (defScope s_law_strokes) := ⟨rfl, rfl, rfl, by decide +kernel, rfl, by decide +kernel, by decide +kernel⟩
abbrev n_law_cross : List Str := ["_law_one", "_law_two", "_law_three"]
theorem sc_law_cross : FnScope n_law_cross ["_law_one", "_law_two", "_law_three"] (defScope s_law_cross) := ⟨rfl, rfl, rfl, by decide +kernel, rfl, by decide +kernel, by decide +kernel⟩
abbrev n_law_meet : List Str := ["_law_one", "_law_other", "_law_ends", "_law_left", "_law_right", "_law_whole", "_law_x", "_law_low_here", "_law_high"]
theorem sc_law_meet : FnScope n_law_meet ["_law_one", "_law_other"] (defScope s_law_meet) := ⟨rfl, rfl, rfl, by decide +kernel, rfl, by decide +kernel, by decide +kernel⟩
abbrev n_law_causes : List Str := ["_law_heap", "_law_names", "_law_found", "_law_k", "_law_stroke_here", "_law_other", "_law_told", "_law_x", "_law_y"]
theorem sc_law_causes : FnScope n_law_causes ["_law_heap"] (defScope s_law_causes) := ⟨rfl, rfl, rfl, by decide +kernel, rfl, by decide +kernel, by decide +kernel⟩
abbrev n_law_hot : List Str := ["_law_heap", "_law_found", "_law_spot_here", "_law_cause"]
theorem sc_law_hot : FnScope n_law_hot ["_law_heap"] (defScope s_law_hot) := ⟨rfl, rfl, rfl, by decide +kernel, rfl, by decide +kernel, by decide +kernel⟩
abbrev n_law : List Str := ["_law_script", "_law_bag_here", "_law_turn", "_law_strokes_here", "_law_heap", "_law_again", "_law_some", "_law_spot_here", "_law_handed", "_law_due", "_law_found", "_law_told", "_law_k", "_law_at", "_law_cause"]
theorem sc_law : FnScope n_law ["_law_script"] (defScope s_law) := ⟨rfl, rfl, rfl, by decide +kernel, rfl, by decide +kernel, by decide +kernel⟩
/-! ### each def keeps its reading -/
section
variable {P : Program} {w : World} {K : PySem.W.Frag} {mg : Str → Option Value} {base : Heap} {a : Addr} {fd : FuncData} {dvs : List V} {kws : List (Str × V)} {T : List (Addr × Str)}
theorem ok_greatest (B : Bf mg)   (F : FunD K "greatest" "greatest" (defArgs s_greatest) (defBody s_greatest) (defScope s_greatest) dvs [] a fd) : FnOk P w K mg base CX0 1 a fd ["one", "other"] (spD K c_greatest) := by
  refine fn_okD (k := 0) F sc_greatest fun cdv A outer s H E hr => ?_
  exact (pds_cons (pds_par (i := 0) (j := 1) rfl sc_greatest.nd rfl rfl (by decide) rfl rfl (pda_cons (pd_cb call_abs cd_abs B.b_abs (by decide +kernel) (pda_cons (pd_var (pv 0)) pda_nil)) (pda_cons (pd_cb call_abs cd_abs B.b_abs (by decide +kernel) (pda_cons (pd_var (pv 1)) pda_nil)) pda_nil)) (by rfl)) (pds_cons (pds_while PassesOwn.never (pdt_cmp (op_gt.or (op_gtX (hu64 hr))) (opD_or od_gt od_ord) (nomark _) (pd_var (pv 1)) pd_int) (pds_one (pds_par (i := 0) (j := 1) rfl sc_greatest.nd rfl rfl (by decide) rfl rfl (pda_cons (pd_var (pv 1)) (pda_cons (pd_mod (pd_var (pv 0)) (pd_var (pv 1))) pda_nil)) (by rfl)))) (pds_one (pds_ret (pd_var (pv 0))))))
theorem ok_lowest (B : Bf mg) (G_greatest : Gd P w K mg base "greatest" 1 [] c_greatest)  (F : FunD K "lowest" "lowest" (defArgs s_lowest) (defBody s_lowest) (defScope s_lowest) dvs [] a fd) : FnOk P w K mg base CX0 2 a fd ["over", "under"] (spD K c_lowest) := by
  refine fn_okD (k := 1) F sc_lowest fun cdv A outer s H E hr => ?_
  exact (pds_cons (pds_if (pdt_cmp (op_eqD hr.units) od_eq (nomark _) (pd_var (pv 1)) pd_int) (pds_one pds_never) pds_nil) (pds_cons (pds_set (i := 2) sc_lowest.nd rfl (Or.inl rfl) (pd_call G_greatest (hr.mono (by decide)) (pda_cons (pd_var (pv 0)) (pda_cons (pd_var (pv 1)) pda_nil)))) (pds_cons (pds_if (pdt_cmp (op_lt.or (op_ltX (hu64 hr))) (opD_or od_lt od_ord) (nomark _) (pd_var (pv 1)) pd_int) (pds_one (pds_set (i := 2) sc_lowest.nd rfl (Or.inl rfl) (pd_neg (pd_var (pv 2))))) pds_nil) (pds_one (pds_ret (pd_tup (pda_cons (pd_fdiv (pd_var (pv 0)) (pd_var (pv 2))) (pda_cons (pd_fdiv (pd_var (pv 1)) (pd_var (pv 2))) pda_nil))))))))
theorem ok_plus (B : Bf mg) (G_lowest : Gd P w K mg base "lowest" 2 [] c_lowest)  (F : FunD K "plus" "plus" (defArgs s_plus) (defBody s_plus) (defScope s_plus) dvs [] a fd) : FnOk P w K mg base CX0 3 a fd ["one", "other"] (spD K c_plus) := by
  refine fn_okD (k := 2) F sc_plus fun cdv A outer s H E hr => ?_
  exact (pds_one (pds_ret (pd_call G_lowest (hr.mono (by decide)) (pda_cons (pd_add (pd_mul (pd_item (pd_var (pv 0)) pd_int) (pd_item (pd_var (pv 1)) pd_int)) (pd_mul (pd_item (pd_var (pv 1)) pd_int) (pd_item (pd_var (pv 0)) pd_int))) (pda_cons (pd_mul (pd_item (pd_var (pv 0)) pd_int) (pd_item (pd_var (pv 1)) pd_int)) pda_nil)))))
theorem ok_below (B : Bf mg)   (F : FunD K "below" "below" (defArgs s_below) (defBody s_below) (defScope s_below) dvs [] a fd) : FnOk P w K mg base CX0 1 a fd ["one", "other"] (spD K c_below) := by
  refine fn_okD (k := 0) F sc_below fun cdv A outer s H E hr => ?_
  exact (pds_one (pds_ret (pd_cmp (op_lt.or (op_ltX (hu64 hr))) (opD_or od_lt od_ord) (nomark _) (pd_mul (pd_item (pd_var (pv 0)) pd_int) (pd_item (pd_var (pv 1)) pd_int)) (pd_mul (pd_item (pd_var (pv 1)) pd_int) (pd_item (pd_var (pv 0)) pd_int)))))
theorem ok_nearest (B : Bf mg)   (F : FunD K "nearest" "nearest" (defArgs s_nearest) (defBody s_nearest) (defScope s_nearest) dvs [] a fd) : FnOk P w K mg base CX0 1 a fd ["one"] (spD K c_nearest) := by
  refine fn_okD (k := 0) F sc_nearest fun cdv A outer s H E hr => ?_
  exact (pds_one (pds_ret (pd_fdiv (pd_add (pd_mul pd_int (pd_item (pd_var (pv 0)) pd_int)) (pd_item (pd_var (pv 0)) pd_int)) (pd_mul pd_int (pd_item (pd_var (pv 0)) pd_int)))))
theorem ok_square_of (B : Bf mg) (G_nearest : Gd P w K mg base "nearest" 1 [] c_nearest)  (F : FunD K "square_of" "square_of" (defArgs s_square_of) (defBody s_square_of) (defScope s_square_of) dvs [] a fd) : FnOk P w K mg base CX0 2 a fd ["place"] (spD K c_square_of) := by
  refine fn_okD (k := 1) F sc_square_of fun cdv A outer s H E hr => ?_
  exact (pds_one (pds_ret (pd_tup (pda_cons (pd_call G_nearest (hr.mono (by decide)) (pda_cons (pd_item (pd_var (pv 0)) pd_int) pda_nil)) (pda_cons (pd_call G_nearest (hr.mono (by decide)) (pda_cons (pd_item (pd_var (pv 0)) pd_int) pda_nil)) pda_nil)))))
theorem ok_common (B : Bf mg)   (F : FunD K "common" "common" (defArgs s_common) (defBody s_common) (defScope s_common) dvs [] a fd) : FnOk P w K mg base CX0 1 a fd ["one", "other"] (spD K c_common) := by
  refine fn_okD (k := 0) F sc_common fun cdv A outer s H E hr => ?_
  exact (pds_cons (pds_set (i := 2) sc_common.nd rfl (Or.inl rfl) (pd_cb (CallR.or (call_max2 rfl) (callX_max2 rfl (hu65 hr))) (cd_or cd_max2 cd_mm2) B.b_max (by decide +kernel) (pda_cons (pd_cb (CallR.or (call_min2 rfl) (callX_min2 rfl (hu65 hr))) (cd_or cd_min2 cd_mm2) B.b_min (by decide +kernel) (pda_cons (pd_slice (pd_var (pv 0)) pdo_none (pdo_some pd_int)) (pda_cons (pd_slice (pd_var (pv 0)) (pdo_some pd_int) pdo_none) pda_nil))) (pda_cons (pd_cb (CallR.or (call_min2 rfl) (callX_min2 rfl (hu65 hr))) (cd_or cd_min2 cd_mm2) B.b_min (by decide +kernel) (pda_cons (pd_slice (pd_var (pv 1)) pdo_none (pdo_some pd_int)) (pda_cons (pd_slice (pd_var (pv 1)) (pdo_some pd_int) pdo_none) pda_nil))) pda_nil)))) (pds_cons (pds_set (i := 3) sc_common.nd rfl (Or.inl rfl) (pd_cb (CallR.or (call_min2 rfl) (callX_min2 rfl (hu65 hr))) (cd_or cd_min2 cd_mm2) B.b_min (by decide +kernel) (pda_cons (pd_cb (CallR.or (call_max2 rfl) (callX_max2 rfl (hu65 hr))) (cd_or cd_max2 cd_mm2) B.b_max (by decide +kernel) (pda_cons (pd_slice (pd_var (pv 0)) pdo_none (pdo_some pd_int)) (pda_cons (pd_slice (pd_var (pv 0)) (pdo_some pd_int) pdo_none) pda_nil))) (pda_cons (pd_cb (CallR.or (call_max2 rfl) (callX_max2 rfl (hu65 hr))) (cd_or cd_max2 cd_mm2) B.b_max (by decide +kernel) (pda_cons (pd_slice (pd_var (pv 1)) pdo_none (pdo_some pd_int)) (pda_cons (pd_slice (pd_var (pv 1)) (pdo_some pd_int) pdo_none) pda_nil))) pda_nil)))) (pds_cons (pds_if (pdt_cmp (op_gt.or (op_gtX (hu64 hr))) (opD_or od_gt od_ord) (nomark _) (pd_var (pv 2)) (pd_var (pv 3))) (pds_one (pds_ret pd_non)) pds_nil) (pds_cons (pds_if (pdt_cmp (op_eqD hr.units) od_eq (nomark _) (pd_var (pv 2)) (pd_var (pv 3))) (pds_one (pds_ret (pd_tup (pda_cons pd_str (pda_cons (pd_tup (pda_cons (pd_tup (pda_cons (pd_item (pd_var (pv 2)) pd_int) (pda_cons pd_int pda_nil))) (pda_cons (pd_tup (pda_cons (pd_item (pd_var (pv 2)) pd_int) (pda_cons pd_int pda_nil))) pda_nil))) pda_nil))))) pds_nil) (pds_one (pds_ret (pd_tup (pda_cons pd_str (pda_cons (pd_var (pv 2)) (pda_cons (pd_var (pv 3)) pda_nil))))))))))
theorem ok_meet (B : Bf mg) (G_common : Gd P w K mg base "common" 1 [] c_common) (G_lowest : Gd P w K mg base "lowest" 2 [] c_lowest) (G_below : Gd P w K mg base "below" 1 [] c_below) (G_plus : Gd P w K mg base "plus" 3 [] c_plus)  (F : FunD K "meet" "meet" (defArgs s_meet) (defBody s_meet) (defScope s_meet) dvs [] a fd) : FnOk P w K mg base CX0 4 a fd ["one", "other"] (spD K c_meet) := by
  refine fn_okD (k := 3) F sc_meet fun cdv A outer s H E hr => ?_
  exact (pds_cons (pds_par (i := 6) (j := 7) rfl sc_meet.nd rfl rfl (by decide) rfl rfl (pda_cons (pd_sub (pd_item (pd_var (pv 0)) pd_int) (pd_item (pd_var (pv 0)) pd_int)) (pda_cons (pd_sub (pd_item (pd_var (pv 0)) pd_int) (pd_item (pd_var (pv 0)) pd_int)) pda_nil)) (by rfl)) (pds_cons (pds_par (i := 8) (j := 9) rfl sc_meet.nd rfl rfl (by decide) rfl rfl (pda_cons (pd_sub (pd_item (pd_var (pv 1)) pd_int) (pd_item (pd_var (pv 1)) pd_int)) (pda_cons (pd_sub (pd_item (pd_var (pv 1)) pd_int) (pd_item (pd_var (pv 1)) pd_int)) pda_nil)) (by rfl)) (pds_cons (pds_par (i := 10) (j := 11) rfl sc_meet.nd rfl rfl (by decide) rfl rfl (pda_cons (pd_sub (pd_item (pd_var (pv 1)) pd_int) (pd_item (pd_var (pv 0)) pd_int)) (pda_cons (pd_sub (pd_item (pd_var (pv 1)) pd_int) (pd_item (pd_var (pv 0)) pd_int)) pda_nil)) (by rfl)) (pds_cons (pds_set (i := 2) sc_meet.nd rfl (Or.inl rfl) (pd_sub (pd_mul (pd_var (pv 6)) (pd_var (pv 9))) (pd_mul (pd_var (pv 7)) (pd_var (pv 8))))) (pds_cons (pds_if (pdt_cmp (op_eqD hr.units) od_eq (nomark _) (pd_var (pv 2)) pd_int) (pds_one (pds_ret (pd_if (pdt_cmp (op_eqD hr.units) od_eq (nomark _) (pd_sub (pd_mul (pd_var (pv 10)) (pd_var (pv 7))) (pd_mul (pd_var (pv 11)) (pd_var (pv 6)))) pd_int) (pd_call G_common (hr.mono (by decide)) (pda_cons (pd_var (pv 0)) (pda_cons (pd_var (pv 1)) pda_nil))) pd_non))) pds_nil) (pds_cons (pds_set (i := 3) sc_meet.nd rfl (Or.inl rfl) (pd_call G_lowest (hr.mono (by decide)) (pda_cons (pd_sub (pd_mul (pd_var (pv 10)) (pd_var (pv 9))) (pd_mul (pd_var (pv 11)) (pd_var (pv 8)))) (pda_cons (pd_var (pv 2)) pda_nil)))) (pds_cons (pds_set (i := 4) sc_meet.nd rfl (Or.inl rfl) (pd_call G_lowest (hr.mono (by decide)) (pda_cons (pd_sub (pd_mul (pd_var (pv 10)) (pd_var (pv 7))) (pd_mul (pd_var (pv 11)) (pd_var (pv 6)))) (pda_cons (pd_var (pv 2)) pda_nil)))) (pds_cons (pds_if (pdt_w (pdw_or (pdt_val (pd_call G_below (hr.mono (by decide)) (pda_cons (pd_var (pv 3)) (pda_cons (pd_tup (pda_cons pd_int (pda_cons pd_int pda_nil))) pda_nil)))) (pdw_or (pdt_val (pd_call G_below (hr.mono (by decide)) (pda_cons (pd_tup (pda_cons pd_int (pda_cons pd_int pda_nil))) (pda_cons (pd_var (pv 3)) pda_nil)))) (pdw_or (pdt_val (pd_call G_below (hr.mono (by decide)) (pda_cons (pd_var (pv 4)) (pda_cons (pd_tup (pda_cons pd_int (pda_cons pd_int pda_nil))) pda_nil)))) (pdw_or1 (pdt_val (pd_call G_below (hr.mono (by decide)) (pda_cons (pd_tup (pda_cons pd_int (pda_cons pd_int pda_nil))) (pda_cons (pd_var (pv 4)) pda_nil))))))))) (pds_one (pds_ret pd_non)) pds_nil) (pds_cons (pds_set (i := 5) sc_meet.nd rfl (Or.inl rfl) (pd_call G_plus (hr.mono (by decide)) (pda_cons (pd_tup (pda_cons (pd_item (pd_var (pv 0)) pd_int) (pda_cons pd_int pda_nil))) (pda_cons (pd_call G_lowest (hr.mono (by decide)) (pda_cons (pd_mul (pd_item (pd_var (pv 3)) pd_int) (pd_var (pv 6))) (pda_cons (pd_item (pd_var (pv 3)) pd_int) pda_nil))) pda_nil)))) (pds_one (pds_ret (pd_tup (pda_cons pd_str (pda_cons (pd_tup (pda_cons (pd_var (pv 5)) (pda_cons (pd_call G_plus (hr.mono (by decide)) (pda_cons (pd_tup (pda_cons (pd_item (pd_var (pv 0)) pd_int) (pda_cons pd_int pda_nil))) (pda_cons (pd_call G_lowest (hr.mono (by decide)) (pda_cons (pd_mul (pd_item (pd_var (pv 3)) pd_int) (pd_var (pv 7))) (pda_cons (pd_item (pd_var (pv 3)) pd_int) pda_nil))) pda_nil))) pda_nil))) pda_nil))))))))))))))
theorem ok_causes (B : Bf mg) (G_meet : Gd P w K mg base "meet" 4 [] c_meet) (G_square_of : Gd P w K mg base "square_of" 2 [] c_square_of)  (F : FunD K "causes" "causes" (defArgs s_causes) (defBody s_causes) (defScope s_causes) dvs [] a fd) : FnOk P w K mg base CX0 5 a fd ["heap"] (spO K c_causesO) := by
  refine fn_okO (k := 4) F sc_causes fun cdv A outer s H E hr => ?_
  exact (pds_cons (pds_set (i := 1) sc_causes.nd rfl (Or.inl rfl) (PDo.pd (pdo_cb (call_sortC rfl (hu65 hr)) cdo_sorted B.b_sorted (by decide +kernel) (pda_cons (pd_var (pv 0)) pda_nil)))) (pds_cons (pds_own (i := 2) sc_causes.nd rfl (Or.inl rfl) pda_nil) (pds_cons (pds_for (vs := [3, 4]) (rg_tup (rg_cons (rg_nm (by decide)) (rg_cons (rg_nm (by decide)) rg_nil))) PassesOwn.never rfl (pdi_enum B.b_enumerate (pda_cons (pd_var (pv 1)) pda_nil)) (pg_tup rfl (pgs_cons (pg_name (i := 3) sc_causes.nd rfl (Or.inl rfl)) (pgs_cons (pg_name (i := 4) sc_causes.nd rfl (Or.inl rfl)) pgs_nil))) (pds_cons (pds_set (i := 5) sc_causes.nd rfl (Or.inl rfl) (pd_itemK (hu65 hr) (pd_var (pv 0)) (pd_var (pv 4)))) (pds_cons (pds_append (i := 2) (pe_bm PySem.F.plainAttrs_list PySem.F.slot_list_append PySem.F.type_list_append mt_append (pv 2) (pa_cons (pd_tup (pda_cons (pd_slice (pd_var (pv 5)) pdo_none (pdo_some pd_int)) (pda_cons (pd_tup (pda_cons pd_str (pda_cons (pd_var (pv 4)) (pda_cons pd_int pda_nil)))) pda_nil))) pa_nil))) (pds_cons (pds_append (i := 2) (pe_bm PySem.F.plainAttrs_list PySem.F.slot_list_append PySem.F.type_list_append mt_append (pv 2) (pa_cons (pd_tup (pda_cons (pd_slice (pd_var (pv 5)) (pdo_some pd_int) pdo_none) (pda_cons (pd_tup (pda_cons pd_str (pda_cons (pd_var (pv 4)) (pda_cons pd_int pda_nil)))) pda_nil))) pa_nil))) (pds_one (pds_for (vs := [6]) (rg_nm (by decide)) PassesOwn.never rfl (pdi_seq (pd_slice (pd_var (pv 1)) (pdo_some (pd_add (pd_var (pv 3)) pd_int)) pdo_none)) (pg_name (i := 6) sc_causes.nd rfl (Or.inl rfl)) (pds_cons (pds_set (i := 7) sc_causes.nd rfl (Or.inl rfl) (pd_call G_meet (hr.mono (by decide)) (pda_cons (pd_var (pv 5)) (pda_cons (pd_itemK (hu65 hr) (pd_var (pv 0)) (pd_var (pv 6))) pda_nil)))) (pds_one (pds_if (pdt_w (pdw_and (pdt_cmp op_notN od_notN (nomark _) (pd_var (pv 7)) pd_non) (pdw_and1 (pdt_cmp (op_eqD hr.units) od_eq (nomark _) (pd_item (pd_var (pv 7)) pd_int) pd_str)))) (pds_one (pds_append (i := 2) (pe_bm PySem.F.plainAttrs_list PySem.F.slot_list_append PySem.F.type_list_append mt_append (pv 2) (pa_cons (pd_tup (pda_cons (pd_call G_square_of (hr.mono (by decide)) (pda_cons (pd_item (pd_var (pv 7)) pd_int) pda_nil)) (pda_cons (pd_tup (pda_cons pd_str (pda_cons (pd_var (pv 4)) (pda_cons (pd_var (pv 6)) pda_nil)))) pda_nil))) pa_nil)))) pds_nil))))))))) (pds_one (pds_frz 2 (pds_retO (pdo_cb (call_sortC rfl (hu65 hr)) cdo_sorted B.b_sorted (by decide +kernel) (pda_cons (pd_var (pv 2)) pda_nil))))))))
theorem ok_hot (B : Bf mg) (G_causes : GdO P w K mg base "causes" 5 [] c_causesO)  (F : FunD K "hot" "hot" (defArgs s_hot) (defBody s_hot) (defScope s_hot) dvs [] a fd) : FnOk P w K mg base CX0 6 a fd ["heap"] (spO K c_hotO) := by
  refine fn_okO (k := 5) F sc_hot fun cdv A outer s H E hr => ?_
  exact (pds_one (pds_retO (pdo_sortN (own := [("spot", 1), ("cause", 2)]) (rg_tup (rg_cons (rg_nm (by decide)) (rg_cons (rg_nm (by decide)) rg_nil))) rfl (hu65 hr) sc_hot.nd B.b_sorted (pdi_seq (PDo.pd (pdo_call G_causes (hr.mono (by decide)) (pda_cons (pd_var (pv 0)) pda_nil)))) (blkOk_by (own := [("spot", 1), ("cause", 2)]) (N := n_hot) (sc := defScope s_hot) (by decide +kernel)) (fun _ _ _ _ _ => (pg_tup rfl (pgs_cons (pg_name (i := 1) sc_hot.nd rfl (Or.inl rfl)) (pgs_cons (pg_name (i := 2) sc_hot.nd rfl (Or.inl rfl)) pgs_nil)))) (fun _ _ _ _ _ => pdts_nil) (fun _ _ _ _ _ => (pd_var (pv 1))))))
theorem ok_why (B : Bf mg) (G_causes : GdO P w K mg base "causes" 5 [] c_causesO)  (F : FunD K "why" "why" (defArgs s_why) (defBody s_why) (defScope s_why) dvs [] a fd) : FnOk P w K mg base CX0 6 a fd ["heap", "spot"] (spO K c_whyO) := by
  refine fn_okO (k := 5) F sc_why fun cdv A outer s H E hr => ?_
  exact (pds_one (pds_retO (pdo_lc (own := [("at", 2), ("cause", 3)]) (rg_tup (rg_cons (rg_nm (by decide)) (rg_cons (rg_nm (by decide)) rg_nil))) rfl sc_why.nd (pdi_seq (PDo.pd (pdo_call G_causes (hr.mono (by decide)) (pda_cons (pd_var (pv 0)) pda_nil)))) (blkOk_by (own := [("at", 2), ("cause", 3)]) (N := n_why) (sc := defScope s_why) (by decide +kernel)) (fun _ _ _ _ _ => (pg_tup rfl (pgs_cons (pg_name (i := 2) sc_why.nd rfl (Or.inl rfl)) (pgs_cons (pg_name (i := 3) sc_why.nd rfl (Or.inl rfl)) pgs_nil)))) (fun _ _ _ _ _ => (pdts_one (pdt_cmp (op_eqD hr.units) od_eq (nomark _) (pd_var (pv 2)) (pd_var (pv 1))))) (fun _ _ _ _ _ => (pd_var (pv 3))))))
theorem ok_law_of (B : Bf mg) (G_law_pull : Gd P w K mg base "_law_pull" 1 [] pullD)  (F : FunD K "_law_of" "_law_of" (defArgs s_law_of) (defBody s_law_of) (defScope s_law_of) dvs [] a fd) : FnOk P w K mg base CX0 2 a fd ["_law_bag_here", "_law_things"] (spD K c_law_of) := by
  refine fn_okD (k := 1) F sc_law_of fun cdv A outer s H E hr => ?_
  exact (pds_one (pds_ret (pd_item (pd_var (pv 1)) (pd_call G_law_pull (hr.mono (by decide)) (pda_cons (pd_var (pv 0)) (pda_cons (pd_cb call_len cd_len B.b_len (by decide +kernel) (pda_cons (pd_var (pv 1)) pda_nil)) pda_nil))))))
theorem ok_law_like (B : Bf mg) (hm : mg "_law_like" = some (.ref a)) (hb : Binds K fd ["_law_found", "_law_due"] [])   (F : FunD K "_law_like" "_law_like" (defArgs s_law_like) (defBody s_law_like) (defScope s_law_like) dvs [] a fd) : ∀ n, FnOk P w K mg base CX0 (n) a fd ["_law_found", "_law_due"] (spD K (c_law_like n))
  | 0 => ⟨fun vs H Q E h => (let ⟨_, _, _, _, _, z, _⟩ := h; z.elim), fun A outer s H args us vs Q E _ _ _ _ h => (let ⟨_, _, _, _, _, z, _⟩ := h; z.elim)⟩
  | n + 1 => by
    have G_self : Gd P w K mg base "_law_like" (n) [] (c_law_like n) := mkGd hm F.kp (ok_law_like B hm hb  F n) ⟨[], .nil, hb⟩ (fun _ => .nil)
    refine fn_okD (k := n) F sc_law_like fun cdv A outer s H E hr => ?_
    exact (pds_cons (pds_if (pdt_val (pd_isi "dict" (by decide +kernel) (by decide +kernel) B.b_isinstance B.b_dict (pd_var (pv 1)))) pdss_never pds_nil) (pds_cons (pds_if (pdt_w (pdw_or (pdt_cmp (op_neD hr.units) od_ne (nomark _) (pd_isi "tuple" (by decide +kernel) (by decide +kernel) B.b_isinstance B.b_tuple (pd_var (pv 1))) (pd_isi "tuple" (by decide +kernel) (by decide +kernel) B.b_isinstance B.b_tuple (pd_var (pv 0)))) (pdw_or1 (pdt_cmp (op_neD hr.units) od_ne (nomark _) (pd_isi "list" (by decide +kernel) (by decide +kernel) B.b_isinstance B.b_list (pd_var (pv 1))) (pd_isi "list" (by decide +kernel) (by decide +kernel) B.b_isinstance B.b_list (pd_var (pv 0))))))) (pds_one (pds_ret pd_bl)) pds_nil) (pds_cons (pds_if (pdt_not (pdt_val (pd_isi2 "tuple" "list" (by decide +kernel) (by decide +kernel) (by decide +kernel) (by decide +kernel) B.b_isinstance B.b_tuple B.b_list (pd_var (pv 1))))) (pds_one (pds_ret (pd_and (pd_cmp (op_eqD hr.units) od_eq (nomark _) (pd_isi "bool" (by decide +kernel) (by decide +kernel) B.b_isinstance B.b_bool (pd_var (pv 0))) (pd_isi "bool" (by decide +kernel) (by decide +kernel) B.b_isinstance B.b_bool (pd_var (pv 1)))) (pd_one (pd_cmp (op_eqD hr.units) od_eq (nomark _) (pd_var (pv 0)) (pd_var (pv 1))))))) pds_nil) (pds_one (pds_ret (pd_and (pd_cmp (op_eqD hr.units) od_eq (nomark _) (pd_cb call_len cd_len B.b_len (by decide +kernel) (pda_cons (pd_var (pv 0)) pda_nil)) (pd_cb call_len cd_len B.b_len (by decide +kernel) (pda_cons (pd_var (pv 1)) pda_nil))) (pd_one (pd_cb (cr_all rfl) cd_all B.b_all (by decide +kernel) (pda_cons (pd_lc (own := [("_law_k", 2)]) (rg_nm (by decide)) rfl sc_law_like.nd (pdi_range1 B.b_range (pda_cons (pd_cb call_len cd_len B.b_len (by decide +kernel) (pda_cons (pd_var (pv 1)) pda_nil)) pda_nil)) (blkOk_by (own := [("_law_k", 2)]) (N := n_law_like) (sc := defScope s_law_like) (by decide +kernel)) (fun _ _ _ _ _ => (pg_name (i := 2) sc_law_like.nd rfl (Or.inl rfl))) (fun _ _ _ _ _ => pdts_nil) (fun _ _ _ _ _ => (pd_call G_self hr (pda_cons (pd_item (pd_var (pv 0)) (pd_var (pv 2))) (pda_cons (pd_item (pd_var (pv 1)) (pd_var (pv 2))) pda_nil))))) pda_nil)))))))))
theorem ok_law_common (B : Bf mg)   (F : FunD K "_law_common" "_law_common" (defArgs s_law_common) (defBody s_law_common) (defScope s_law_common) dvs [] a fd) : FnOk P w K mg base CX0 1 a fd ["_law_one", "_law_other"] (spD K c_greatest) := by
  refine fn_okD (k := 0) F sc_law_common fun cdv A outer s H E hr => ?_
  exact (pds_cons (pds_par (i := 0) (j := 1) rfl sc_law_common.nd rfl rfl (by decide) rfl rfl (pda_cons (pd_cb call_abs cd_abs B.b_abs (by decide +kernel) (pda_cons (pd_var (pv 0)) pda_nil)) (pda_cons (pd_cb call_abs cd_abs B.b_abs (by decide +kernel) (pda_cons (pd_var (pv 1)) pda_nil)) pda_nil)) (by rfl)) (pds_cons (pds_while PassesOwn.never (pdt_cmp (op_gt.or (op_gtX (hu64 hr))) (opD_or od_gt od_ord) (nomark _) (pd_var (pv 1)) pd_int) (pds_one (pds_par (i := 0) (j := 1) rfl sc_law_common.nd rfl rfl (by decide) rfl rfl (pda_cons (pd_var (pv 1)) (pda_cons (pd_mod (pd_var (pv 0)) (pd_var (pv 1))) pda_nil)) (by rfl)))) (pds_one (pds_ret (pd_var (pv 0))))))
theorem ok_law_low (B : Bf mg) (G_law_common : Gd P w K mg base "_law_common" 1 [] c_greatest)  (F : FunD K "_law_low" "_law_low" (defArgs s_law_low) (defBody s_law_low) (defScope s_law_low) dvs [] a fd) : FnOk P w K mg base CX0 2 a fd ["_law_over", "_law_under"] (spD K c_law_low) := by
  refine fn_okD (k := 1) F sc_law_low fun cdv A outer s H E hr => ?_
  exact (pds_cons (pds_set (i := 2) sc_law_low.nd rfl (Or.inl rfl) (pd_call G_law_common (hr.mono (by decide)) (pda_cons (pd_var (pv 0)) (pda_cons (pd_var (pv 1)) pda_nil)))) (pds_cons (pds_if (pdt_cmp (op_lt.or (op_ltX (hu64 hr))) (opD_or od_lt od_ord) (nomark _) (pd_var (pv 1)) pd_int) (pds_one (pds_set (i := 2) sc_law_low.nd rfl (Or.inl rfl) (pd_sub pd_int (pd_var (pv 2))))) pds_nil) (pds_one (pds_ret (pd_tup (pda_cons (pd_fdiv (pd_var (pv 0)) (pd_var (pv 2))) (pda_cons (pd_fdiv (pd_var (pv 1)) (pd_var (pv 2))) pda_nil)))))))
theorem ok_law_near (B : Bf mg)   (F : FunD K "_law_near" "_law_near" (defArgs s_law_near) (defBody s_law_near) (defScope s_law_near) dvs [] a fd) : FnOk P w K mg base CX0 1 a fd ["_law_part"] (spD K c_nearest) := by
  refine fn_okD (k := 0) F sc_law_near fun cdv A outer s H E hr => ?_
  exact (pds_one (pds_ret (pd_fdiv (pd_add (pd_mul pd_int (pd_item (pd_var (pv 0)) pd_int)) (pd_item (pd_var (pv 0)) pd_int)) (pd_mul pd_int (pd_item (pd_var (pv 0)) pd_int)))))
theorem ok_law_clipped (B : Bf mg)   (F : FunD K "_law_clipped" "_law_clipped" (defArgs s_law_clipped) (defBody s_law_clipped) (defScope s_law_clipped) dvs [] a fd) : FnOk P w K mg base CX0 1 a fd ["_law_number"] (spD K c_law_clipped) := by
  refine fn_okD (k := 0) F sc_law_clipped fun cdv A outer s H E hr => ?_
  exact (pds_one (pds_ret (pd_cb (CallR.or (call_max2 rfl) (callX_max2 rfl (hu65 hr))) (cd_or cd_max2 cd_mm2) B.b_max (by decide +kernel) (pda_cons (pd_neg pd_int) (pda_cons (pd_cb (CallR.or (call_min2 rfl) (callX_min2 rfl (hu65 hr))) (cd_or cd_min2 cd_mm2) B.b_min (by decide +kernel) (pda_cons pd_int (pda_cons (pd_var (pv 0)) pda_nil))) pda_nil)))))
theorem ok_law_spot (B : Bf mg) (G_law_pull : Gd P w K mg base "_law_pull" 1 [] pullD) (G_law_clipped : Gd P w K mg base "_law_clipped" 1 [] c_law_clipped)  (F : FunD K "_law_spot" "_law_spot" (defArgs s_law_spot) (defBody s_law_spot) (defScope s_law_spot) dvs [] a fd) : FnOk P w K mg base CX0 2 a fd ["_law_bag_here", "_law_base_here", "_law_wide"] (spD K c_law_spot) := by
  refine fn_okD (k := 1) F sc_law_spot fun cdv A outer s H E hr => ?_
  exact (pds_cons (pds_set (i := 3) sc_law_spot.nd rfl (Or.inl rfl) (pd_call G_law_clipped (hr.mono (by decide)) (pda_cons (pd_sub (pd_add (pd_item (pd_var (pv 1)) pd_int) (pd_call G_law_pull (hr.mono (by decide)) (pda_cons (pd_var (pv 0)) (pda_cons (pd_add (pd_mul pd_int (pd_var (pv 2))) pd_int) pda_nil)))) (pd_var (pv 2))) pda_nil))) (pds_one (pds_ret (pd_tup (pda_cons (pd_var (pv 3)) (pda_cons (pd_call G_law_clipped (hr.mono (by decide)) (pda_cons (pd_sub (pd_add (pd_item (pd_var (pv 1)) pd_int) (pd_call G_law_pull (hr.mono (by decide)) (pda_cons (pd_var (pv 0)) (pda_cons (pd_add (pd_mul pd_int (pd_var (pv 2))) pd_int) pda_nil)))) (pd_var (pv 2))) pda_nil)) pda_nil))))))
theorem ok_law_base (B : Bf mg) (G_law_pull : Gd P w K mg base "_law_pull" 1 [] pullD) (G_law_of : Gd P w K mg base "_law_of" 2 [] c_law_of)  (F : FunD K "_law_base" "_law_base" (defArgs s_law_base) (defBody s_law_base) (defScope s_law_base) dvs [] a fd) : FnOk P w K mg base CX0 3 a fd ["_law_bag_here"] (spD K c_law_base) := by
  refine fn_okD (k := 2) F sc_law_base fun cdv A outer s H E hr => ?_
  exact (pds_cons (pds_set (i := 1) sc_law_base.nd rfl (Or.inl rfl) (pd_tup (pda_cons (pd_sub (pd_call G_law_pull (hr.mono (by decide)) (pda_cons (pd_var (pv 0)) (pda_cons pd_int pda_nil))) pd_int) (pda_cons (pd_sub (pd_call G_law_pull (hr.mono (by decide)) (pda_cons (pd_var (pv 0)) (pda_cons pd_int pda_nil))) pd_int) pda_nil)))) (pds_one (pds_ret (pd_call G_law_of (hr.mono (by decide)) (pda_cons (pd_var (pv 0)) (pda_cons (pd_lst (pda_cons (pd_tup (pda_cons pd_int (pda_cons pd_int pda_nil))) (pda_cons (pd_tup (pda_cons pd_int (pda_cons pd_int pda_nil))) (pda_cons (pd_tup (pda_cons pd_int (pda_cons pd_int pda_nil))) (pda_cons (pd_tup (pda_cons (pd_neg pd_int) (pda_cons (pd_neg pd_int) pda_nil))) (pda_cons (pd_tup (pda_cons pd_int (pda_cons pd_int pda_nil))) (pda_cons (pd_tup (pda_cons pd_int (pda_cons (pd_neg pd_int) pda_nil))) (pda_cons (pd_var (pv 1)) pda_nil)))))))) pda_nil))))))
theorem ok_law_stroke (B : Bf mg) (G_law_spot : Gd P w K mg base "_law_spot" 2 [] c_law_spot)  (F : FunD K "_law_stroke" "_law_stroke" (defArgs s_law_stroke) (defBody s_law_stroke) (defScope s_law_stroke) dvs [] a fd) : FnOk P w K mg base CX0 3 a fd ["_law_bag_here", "_law_base_here", "_law_wide"] (spD K c_law_stroke) := by
  refine fn_okD (k := 2) F sc_law_stroke fun cdv A outer s H E hr => ?_
  exact (pds_cons (pds_par (i := 3) (j := 4) rfl sc_law_stroke.nd rfl rfl (by decide) rfl rfl (pda_cons (pd_call G_law_spot (hr.mono (by decide)) (pda_cons (pd_var (pv 0)) (pda_cons (pd_var (pv 1)) (pda_cons (pd_var (pv 2)) pda_nil)))) (pda_cons (pd_call G_law_spot (hr.mono (by decide)) (pda_cons (pd_var (pv 0)) (pda_cons (pd_var (pv 1)) (pda_cons (pd_var (pv 2)) pda_nil)))) pda_nil)) (by rfl)) (pds_cons (pds_if (pdt_cmp (op_eqD hr.units) od_eq (nomark _) (pd_var (pv 3)) (pd_var (pv 4))) (pds_one (pds_set (i := 4) sc_law_stroke.nd rfl (Or.inl rfl) (pd_tup (pda_cons (pd_add (pd_item (pd_var (pv 4)) pd_int) (pd_if (pdt_cmp (op_lt.or (op_ltX (hu64 hr))) (opD_or od_lt od_ord) (nomark _) (pd_item (pd_var (pv 4)) pd_int) pd_int) pd_int (pd_neg pd_int))) (pda_cons (pd_item (pd_var (pv 4)) pd_int) pda_nil))))) pds_nil) (pds_one (pds_ret (pd_add (pd_var (pv 3)) (pd_var (pv 4)))))))
theorem ok_law_beside (B : Bf mg) (G_law_stroke : Gd P w K mg base "_law_stroke" 3 [] c_law_stroke) (G_law_pull : Gd P w K mg base "_law_pull" 1 [] pullD) (G_law_of : Gd P w K mg base "_law_of" 2 [] c_law_of)  (F : FunD K "_law_beside" "_law_beside" (defArgs s_law_beside) (defBody s_law_beside) (defScope s_law_beside) dvs [] a fd) : FnOk P w K mg base CX0 4 a fd ["_law_bag_here", "_law_base_here", "_law_wide", "_law_some"] (spD K c_law_beside) := by
  refine fn_okD (k := 3) F sc_law_beside fun cdv A outer s H E hr => ?_
  exact (pds_cons (pds_set (i := 4) sc_law_beside.nd rfl (Or.inl rfl) (pd_call G_law_stroke (hr.mono (by decide)) (pda_cons (pd_var (pv 0)) (pda_cons (pd_var (pv 1)) (pda_cons (pd_var (pv 2)) pda_nil))))) (pds_cons (pds_set (i := 5) sc_law_beside.nd rfl (Or.inl rfl) (pd_call G_law_pull (hr.mono (by decide)) (pda_cons (pd_var (pv 0)) (pda_cons pd_int pda_nil)))) (pds_cons (pds_if (pdt_w (pdw_or (pdt_cmp (op_eqD hr.units) od_eq (nomark _) (pd_var (pv 3)) (pd_lst pda_nil)) (pdw_or1 (pdt_cmp (op_gt.or (op_gtX (hu64 hr))) (opD_or od_gt od_ord) (nomark _) (pd_var (pv 5)) pd_int)))) (pds_one (pds_ret (pd_var (pv 4)))) pds_nil) (pds_cons (pds_set (i := 6) sc_law_beside.nd rfl (Or.inl rfl) (pd_call G_law_of (hr.mono (by decide)) (pda_cons (pd_var (pv 0)) (pda_cons (pd_var (pv 3)) pda_nil)))) (pds_cons (pds_if (pdt_w (pdw_and (pdt_cmp (op_eqD hr.units) od_eq (nomark _) (pd_var (pv 5)) pd_int) (pdw_and1 (pdt_cmp (op_neD hr.units) od_ne (nomark _) (pd_slice (pd_var (pv 6)) (pdo_some pd_int) pdo_none) (pd_slice (pd_var (pv 4)) (pdo_some pd_int) pdo_none))))) (pds_one (pds_ret (pd_add (pd_slice (pd_var (pv 6)) (pdo_some pd_int) pdo_none) (pd_slice (pd_var (pv 4)) (pdo_some pd_int) pdo_none)))) pds_nil) (pds_cons (pds_par (i := 7) (j := 8) rfl sc_law_beside.nd rfl rfl (by decide) rfl rfl (pda_cons (pd_sub (pd_mul pd_int (pd_item (pd_var (pv 6)) pd_int)) (pd_item (pd_var (pv 6)) pd_int)) (pda_cons (pd_sub (pd_mul pd_int (pd_item (pd_var (pv 6)) pd_int)) (pd_item (pd_var (pv 6)) pd_int)) pda_nil)) (by rfl)) (pds_cons (pds_if (pdt_w (pdw_and (pdt_cmp (op_eqD hr.units) od_eq (nomark _) (pd_var (pv 5)) pd_int) (pdw_and1 (pdt_cmp (op_lt.or (op_ltX (hu64 hr))) (opD_or od_lt od_ord) (nomark _) (pd_cb (CallR.or (call_max2 rfl) (callX_max2 rfl (hu65 hr))) (cd_or cd_max2 cd_mm2) B.b_max (by decide +kernel) (pda_cons (pd_cb call_abs cd_abs B.b_abs (by decide +kernel) (pda_cons (pd_var (pv 7)) pda_nil)) (pda_cons (pd_cb call_abs cd_abs B.b_abs (by decide +kernel) (pda_cons (pd_var (pv 8)) pda_nil)) pda_nil))) pd_int)))) (pds_one (pds_ret (pd_add (pd_slice (pd_var (pv 6)) pdo_none (pdo_some pd_int)) (pd_tup (pda_cons (pd_var (pv 7)) (pda_cons (pd_var (pv 8)) pda_nil)))))) pds_nil) (pds_one (pds_ret (pd_if (pdt_cmp (op_eqD hr.units) od_eq (nomark _) (pd_var (pv 5)) pd_int) (pd_add (pd_slice (pd_var (pv 6)) (pdo_some pd_int) pdo_none) (pd_slice (pd_var (pv 6)) pdo_none (pdo_some pd_int))) (pd_var (pv 4))))))))))))
theorem ok_law_posts (B : Bf mg) (G_law_pull : Gd P w K mg base "_law_pull" 1 [] pullD)  (F : FunD K "_law_posts" "_law_posts" (defArgs s_law_posts) (defBody s_law_posts) (defScope s_law_posts) dvs [] a fd) : FnOk P w K mg base CX0 2 a fd ["_law_bag_here", "_law_many"] (spO K c_law_postsO) := by
  refine fn_okO (k := 1) F sc_law_posts fun cdv A outer s H E hr => ?_
  exact (pds_cons (pds_par (i := 4) (j := 5) rfl sc_law_posts.nd rfl rfl (by decide) rfl rfl (pda_cons (pd_add pd_int (pd_call G_law_pull (hr.mono (by decide)) (pda_cons (pd_var (pv 0)) (pda_cons pd_int pda_nil)))) (pda_cons (pd_sub pd_int (pd_mul pd_int (pd_call G_law_pull (hr.mono (by decide)) (pda_cons (pd_var (pv 0)) (pda_cons pd_int pda_nil))))) pda_nil)) (by rfl)) (pds_cons (pds_par (i := 6) (j := 7) rfl sc_law_posts.nd rfl rfl (by decide) rfl rfl (pda_cons (pd_sub (pd_call G_law_pull (hr.mono (by decide)) (pda_cons (pd_var (pv 0)) (pda_cons (pd_sub pd_int (pd_var (pv 4))) pda_nil))) pd_int) (pda_cons (pd_sub (pd_call G_law_pull (hr.mono (by decide)) (pda_cons (pd_var (pv 0)) (pda_cons pd_int pda_nil))) pd_int) pda_nil)) (by rfl)) (pds_cons (pds_own (i := 2) sc_law_posts.nd rfl (Or.inl rfl) (pda_cons (pd_tup (pda_cons (pd_var (pv 6)) (pda_cons (pd_var (pv 7)) (pda_cons (pd_add (pd_var (pv 6)) (pd_var (pv 4))) (pda_cons (pd_add (pd_var (pv 7)) (pd_var (pv 5))) pda_nil))))) pda_nil)) (pds_cons (pds_for (vs := [3]) (rg_nm (by decide)) PassesOwn.never rfl (pdi_range1 B.b_range (pda_cons (pd_sub (pd_var (pv 1)) pd_int) pda_nil)) (pg_name (i := 3) sc_law_posts.nd rfl (Or.inl rfl)) (pds_cons (pds_par (i := 9) (j := 10) rfl sc_law_posts.nd rfl rfl (by decide) rfl rfl (pda_cons (pd_add (pd_add (pd_var (pv 6)) pd_int) (pd_call G_law_pull (hr.mono (by decide)) (pda_cons (pd_var (pv 0)) (pda_cons (pd_sub (pd_var (pv 4)) pd_int) pda_nil)))) (pda_cons (pd_call G_law_pull (hr.mono (by decide)) (pda_cons (pd_var (pv 0)) (pda_cons pd_int pda_nil))) pda_nil)) (by rfl)) (pds_cons (pds_set (i := 8) sc_law_posts.nd rfl (Or.inl rfl) (pd_add (pd_var (pv 7)) (pd_mul (pd_var (pv 5)) (pd_var (pv 10))))) (pds_one (pds_append (i := 2) (pe_bm PySem.F.plainAttrs_list PySem.F.slot_list_append PySem.F.type_list_append mt_append (pv 2) (pa_cons (pd_tup (pda_cons (pd_var (pv 9)) (pda_cons (pd_var (pv 8)) (pda_cons (pd_var (pv 9)) (pda_cons (pd_add (pd_var (pv 8)) (pd_item (pd_lst (pda_cons (pd_neg pd_int) (pda_cons pd_int pda_nil))) (pd_call G_law_pull (hr.mono (by decide)) (pda_cons (pd_var (pv 0)) (pda_cons pd_int pda_nil))))) pda_nil))))) pa_nil))))))) (pds_one (pds_retOwn (pv 2)))))))
theorem ok_law_strokes (B : Bf mg) (G_law_of : Gd P w K mg base "_law_of" 2 [] c_law_of) (G_law_base : Gd P w K mg base "_law_base" 3 [] c_law_base) (G_law_pull : Gd P w K mg base "_law_pull" 1 [] pullD) (G_law_posts : GdO P w K mg base "_law_posts" 2 [] c_law_postsO) (G_law_beside : Gd P w K mg base "_law_beside" 4 [] c_law_beside)  (F : FunD K "_law_strokes" "_law_strokes" (defArgs s_law_strokes) (defBody s_law_strokes) (defScope s_law_strokes) dvs [] a fd) : FnOk P w K mg base CX0 5 a fd ["_law_bag_here", "_law_many"] (spD K c_law_strokes) := by
  refine fn_okD (k := 4) F sc_law_strokes fun cdv A outer s H E hr => ?_
  exact (pds_cons (pds_par (i := 3) (j := 4) rfl sc_law_strokes.nd rfl rfl (by decide) rfl rfl (pda_cons (pd_call G_law_base (hr.mono (by decide)) (pda_cons (pd_var (pv 0)) pda_nil)) (pda_cons (pd_call G_law_of (hr.mono (by decide)) (pda_cons (pd_var (pv 0)) (pda_cons (pd_lst (pda_cons pd_int (pda_cons pd_int (pda_cons pd_int (pda_cons pd_int (pda_cons pd_int (pda_cons pd_int pda_nil))))))) pda_nil))) pda_nil)) (by rfl)) (pds_cons (pds_own (i := 2) sc_law_strokes.nd rfl (Or.inl rfl) pda_nil) (pds_cons (pds_if (pdt_w (pdw_and (pdt_cmp (op_gt.or (op_gtX (hu64 hr))) (opD_or od_gt od_ord) (nomark _) (pd_var (pv 1)) pd_int) (pdw_and1 (pdt_cmp (op_eqD hr.units) od_eq (nomark _) (pd_call G_law_pull (hr.mono (by decide)) (pda_cons (pd_var (pv 0)) (pda_cons pd_int pda_nil))) pd_int)))) (pds_cons (pds_setO (i := 2) sc_law_strokes.nd rfl (Or.inl rfl) (pdo_call G_law_posts (hr.mono (by decide)) (pda_cons (pd_var (pv 0)) (pda_cons (pd_add pd_int (pd_call G_law_pull (hr.mono (by decide)) (pda_cons (pd_var (pv 0)) (pda_cons (pd_sub (pd_var (pv 1)) pd_int) pda_nil)))) pda_nil)))) (pds_one (pds_set (i := 3) sc_law_strokes.nd rfl (Or.inl rfl) (pd_bor 2 (pd_slice (pd_item (pd_var (pv 2)) pd_int) pdo_none (pdo_some pd_int)))))) pds_nil) (pds_cons (pds_while PassesOwn.never (pdt_bor 2 (pdt_cmp (op_lt.or (op_ltX (hu64 hr))) (opD_or od_lt od_ord) (nomark _) (pd_cb call_len cd_len B.b_len (by decide +kernel) (pda_cons (pd_var (pv 2)) pda_nil)) (pd_var (pv 1)))) (pds_one (pds_append (i := 2) (pe_bm PySem.F.plainAttrs_list PySem.F.slot_list_append PySem.F.type_list_append mt_append (pv 2) (pa_cons (pd_bor 2 (pd_call G_law_beside (hr.mono (by decide)) (pda_cons (pd_var (pv 0)) (pda_cons (pd_var (pv 3)) (pda_cons (pd_var (pv 4)) (pda_cons (pd_var (pv 2)) pda_nil)))))) pa_nil))))) (pds_one (pds_retOwn (pv 2)))))))
theorem ok_law_cross (B : Bf mg)   (F : FunD K "_law_cross" "_law_cross" (defArgs s_law_cross) (defBody s_law_cross) (defScope s_law_cross) dvs [] a fd) : FnOk P w K mg base CX0 1 a fd ["_law_one", "_law_two", "_law_three"] (spD K c_cross) := by
  refine fn_okD (k := 0) F sc_law_cross fun cdv A outer s H E hr => ?_
  exact (pds_one (pds_ret (pd_sub (pd_mul (pd_sub (pd_item (pd_var (pv 1)) pd_int) (pd_item (pd_var (pv 0)) pd_int)) (pd_sub (pd_item (pd_var (pv 2)) pd_int) (pd_item (pd_var (pv 0)) pd_int))) (pd_mul (pd_sub (pd_item (pd_var (pv 1)) pd_int) (pd_item (pd_var (pv 0)) pd_int)) (pd_sub (pd_item (pd_var (pv 2)) pd_int) (pd_item (pd_var (pv 0)) pd_int))))))
theorem ok_law_meet (B : Bf mg) (G_law_cross : Gd P w K mg base "_law_cross" 1 [] c_cross) (G_law_low : Gd P w K mg base "_law_low" 2 [] c_law_low)  (F : FunD K "_law_meet" "_law_meet" (defArgs s_law_meet) (defBody s_law_meet) (defScope s_law_meet) dvs [] a fd) : FnOk P w K mg base CX0 3 a fd ["_law_one", "_law_other"] (spD K c_law_meet) := by
  refine fn_okD (k := 2) F sc_law_meet fun cdv A outer s H E hr => ?_
  exact (pds_cons (pds_set (i := 2) sc_law_meet.nd rfl (Or.inl rfl) (pd_lst (pda_cons (pd_slice (pd_var (pv 0)) pdo_none (pdo_some pd_int)) (pda_cons (pd_slice (pd_var (pv 0)) (pdo_some pd_int) pdo_none) (pda_cons (pd_slice (pd_var (pv 1)) pdo_none (pdo_some pd_int)) (pda_cons (pd_slice (pd_var (pv 1)) (pdo_some pd_int) pdo_none) pda_nil)))))) (pds_cons (pds_set (i := 3) sc_law_meet.nd rfl (Or.inl rfl) (pd_lst (pda_cons (pd_call G_law_cross (hr.mono (by decide)) (pda_cons (pd_item (pd_var (pv 2)) pd_int) (pda_cons (pd_item (pd_var (pv 2)) pd_int) (pda_cons (pd_item (pd_var (pv 2)) pd_int) pda_nil)))) (pda_cons (pd_call G_law_cross (hr.mono (by decide)) (pda_cons (pd_item (pd_var (pv 2)) pd_int) (pda_cons (pd_item (pd_var (pv 2)) pd_int) (pda_cons (pd_item (pd_var (pv 2)) pd_int) pda_nil)))) pda_nil)))) (pds_cons (pds_set (i := 4) sc_law_meet.nd rfl (Or.inl rfl) (pd_lst (pda_cons (pd_call G_law_cross (hr.mono (by decide)) (pda_cons (pd_item (pd_var (pv 2)) pd_int) (pda_cons (pd_item (pd_var (pv 2)) pd_int) (pda_cons (pd_item (pd_var (pv 2)) pd_int) pda_nil)))) (pda_cons (pd_call G_law_cross (hr.mono (by decide)) (pda_cons (pd_item (pd_var (pv 2)) pd_int) (pda_cons (pd_item (pd_var (pv 2)) pd_int) (pda_cons (pd_item (pd_var (pv 2)) pd_int) pda_nil)))) pda_nil)))) (pds_cons (pds_if (pdt_cmp (op_eqD hr.units) od_eq (nomark _) (pd_var (pv 3)) (pd_lst (pda_cons pd_int (pda_cons pd_int pda_nil)))) (pds_cons (pds_set (i := 7) sc_law_meet.nd rfl (Or.inl rfl) (pd_cb (CallR.or (call_max2 rfl) (callX_max2 rfl (hu65 hr))) (cd_or cd_max2 cd_mm2) B.b_max (by decide +kernel) (pda_cons (pd_cb (CallR.or (call_min2 rfl) (callX_min2 rfl (hu65 hr))) (cd_or cd_min2 cd_mm2) B.b_min (by decide +kernel) (pda_cons (pd_item (pd_var (pv 2)) pd_int) (pda_cons (pd_item (pd_var (pv 2)) pd_int) pda_nil))) (pda_cons (pd_cb (CallR.or (call_min2 rfl) (callX_min2 rfl (hu65 hr))) (cd_or cd_min2 cd_mm2) B.b_min (by decide +kernel) (pda_cons (pd_item (pd_var (pv 2)) pd_int) (pda_cons (pd_item (pd_var (pv 2)) pd_int) pda_nil))) pda_nil)))) (pds_cons (pds_set (i := 8) sc_law_meet.nd rfl (Or.inl rfl) (pd_cb (CallR.or (call_min2 rfl) (callX_min2 rfl (hu65 hr))) (cd_or cd_min2 cd_mm2) B.b_min (by decide +kernel) (pda_cons (pd_cb (CallR.or (call_max2 rfl) (callX_max2 rfl (hu65 hr))) (cd_or cd_max2 cd_mm2) B.b_max (by decide +kernel) (pda_cons (pd_item (pd_var (pv 2)) pd_int) (pda_cons (pd_item (pd_var (pv 2)) pd_int) pda_nil))) (pda_cons (pd_cb (CallR.or (call_max2 rfl) (callX_max2 rfl (hu65 hr))) (cd_or cd_max2 cd_mm2) B.b_max (by decide +kernel) (pda_cons (pd_item (pd_var (pv 2)) pd_int) (pda_cons (pd_item (pd_var (pv 2)) pd_int) pda_nil))) pda_nil)))) (pds_cons (pds_if (pdt_cmp (op_lt.or (op_ltX (hu64 hr))) (opD_or od_lt od_ord) (nomark _) (pd_var (pv 7)) (pd_var (pv 8))) (pds_one (pds_ret (pd_tup (pda_cons pd_str (pda_cons (pd_var (pv 7)) (pda_cons (pd_var (pv 8)) pda_nil)))))) pds_nil) (pds_one (pds_ret (pd_if (pdt_cmp (op_eqD hr.units) od_eq (nomark _) (pd_var (pv 7)) (pd_var (pv 8))) (pd_tup (pda_cons pd_str (pda_cons (pd_tup (pda_cons (pd_tup (pda_cons (pd_item (pd_var (pv 7)) pd_int) (pda_cons pd_int pda_nil))) (pda_cons (pd_tup (pda_cons (pd_item (pd_var (pv 7)) pd_int) (pda_cons pd_int pda_nil))) pda_nil))) pda_nil))) pd_non)))))) pds_nil) (pds_cons (pds_if (pdt_w (pdw_or (pdt_cmp (op_gt.or (op_gtX (hu64 hr))) (opD_or od_gt od_ord) (nomark _) (pd_mul (pd_item (pd_var (pv 3)) pd_int) (pd_item (pd_var (pv 3)) pd_int)) pd_int) (pdw_or1 (pdt_cmp (op_gt.or (op_gtX (hu64 hr))) (opD_or od_gt od_ord) (nomark _) (pd_mul (pd_item (pd_var (pv 4)) pd_int) (pd_item (pd_var (pv 4)) pd_int)) pd_int)))) (pds_one (pds_ret pd_non)) pds_nil) (pds_cons (pds_set (i := 5) sc_law_meet.nd rfl (Or.inl rfl) (pd_sub (pd_item (pd_var (pv 3)) pd_int) (pd_item (pd_var (pv 3)) pd_int))) (pds_cons (pds_set (i := 6) sc_law_meet.nd rfl (Or.inl rfl) (pd_call G_law_low (hr.mono (by decide)) (pda_cons (pd_add (pd_mul (pd_item (pd_var (pv 1)) pd_int) (pd_var (pv 5))) (pd_mul (pd_sub (pd_item (pd_var (pv 1)) pd_int) (pd_item (pd_var (pv 1)) pd_int)) (pd_item (pd_var (pv 3)) pd_int))) (pda_cons (pd_var (pv 5)) pda_nil)))) (pds_one (pds_ret (pd_tup (pda_cons pd_str (pda_cons (pd_tup (pda_cons (pd_var (pv 6)) (pda_cons (pd_call G_law_low (hr.mono (by decide)) (pda_cons (pd_add (pd_mul (pd_item (pd_var (pv 1)) pd_int) (pd_var (pv 5))) (pd_mul (pd_sub (pd_item (pd_var (pv 1)) pd_int) (pd_item (pd_var (pv 1)) pd_int)) (pd_item (pd_var (pv 3)) pd_int))) (pda_cons (pd_var (pv 5)) pda_nil))) pda_nil))) pda_nil))))))))))))
theorem ok_law_causes (B : Bf mg) (G_law_meet : Gd P w K mg base "_law_meet" 3 [] c_law_meet) (G_law_near : Gd P w K mg base "_law_near" 1 [] c_nearest)  (F : FunD K "_law_causes" "_law_causes" (defArgs s_law_causes) (defBody s_law_causes) (defScope s_law_causes) dvs [] a fd) : FnOk P w K mg base CX0 4 a fd ["_law_heap"] (spD K c_law_causes) := by
  refine fn_okD (k := 3) F sc_law_causes fun cdv A outer s H E hr => ?_
  exact (pds_cons (pds_set (i := 1) sc_law_causes.nd rfl (Or.inl rfl) (PDo.pd (pdo_cb (call_sortC rfl (hu65 hr)) cdo_sorted B.b_sorted (by decide +kernel) (pda_cons (pd_var (pv 0)) pda_nil)))) (pds_cons (pds_own (i := 2) sc_law_causes.nd rfl (Or.inl rfl) pda_nil) (pds_cons (pds_for (vs := [3]) (rg_nm (by decide)) PassesOwn.never rfl (pdi_range1 B.b_range (pda_cons (pd_cb call_len cd_len B.b_len (by decide +kernel) (pda_cons (pd_var (pv 1)) pda_nil)) pda_nil)) (pg_name (i := 3) sc_law_causes.nd rfl (Or.inl rfl)) (pds_cons (pds_set (i := 4) sc_law_causes.nd rfl (Or.inl rfl) (pd_itemK (hu65 hr) (pd_var (pv 0)) (pd_item (pd_var (pv 1)) (pd_var (pv 3))))) (pds_cons (pds_append (i := 2) (pe_bm PySem.F.plainAttrs_list PySem.F.slot_list_append PySem.F.type_list_append mt_append (pv 2) (pa_cons (pd_tup (pda_cons (pd_slice (pd_var (pv 4)) pdo_none (pdo_some pd_int)) (pda_cons (pd_tup (pda_cons pd_str (pda_cons (pd_item (pd_var (pv 1)) (pd_var (pv 3))) (pda_cons pd_int pda_nil)))) pda_nil))) pa_nil))) (pds_cons (pds_append (i := 2) (pe_bm PySem.F.plainAttrs_list PySem.F.slot_list_append PySem.F.type_list_append mt_append (pv 2) (pa_cons (pd_tup (pda_cons (pd_slice (pd_var (pv 4)) (pdo_some pd_int) pdo_none) (pda_cons (pd_tup (pda_cons pd_str (pda_cons (pd_item (pd_var (pv 1)) (pd_var (pv 3))) (pda_cons pd_int pda_nil)))) pda_nil))) pa_nil))) (pds_one (pds_for (vs := [5]) (rg_nm (by decide)) PassesOwn.never rfl (pdi_seq (pd_slice (pd_var (pv 1)) pdo_none (pdo_some (pd_var (pv 3))))) (pg_name (i := 5) sc_law_causes.nd rfl (Or.inl rfl)) (pds_cons (pds_set (i := 6) sc_law_causes.nd rfl (Or.inl rfl) (pd_call G_law_meet (hr.mono (by decide)) (pda_cons (pd_itemK (hu65 hr) (pd_var (pv 0)) (pd_var (pv 5))) (pda_cons (pd_var (pv 4)) pda_nil)))) (pds_one (pds_if (pdt_w (pdw_and (pdt_cmp op_notN od_notN (nomark _) (pd_var (pv 6)) pd_non) (pdw_and1 (pdt_cmp (op_eqD hr.units) od_eq (nomark _) (pd_item (pd_var (pv 6)) pd_int) pd_str)))) (pds_cons (pds_asg (vs := [7, 8]) (rg_tup (rg_cons (rg_nm (by decide)) (rg_cons (rg_nm (by decide)) rg_nil))) (pd_item (pd_var (pv 6)) pd_int) (pg_tup rfl (pgs_cons (pg_name (i := 7) sc_law_causes.nd rfl (Or.inl rfl)) (pgs_cons (pg_name (i := 8) sc_law_causes.nd rfl (Or.inl rfl)) pgs_nil)))) (pds_one (pds_append (i := 2) (pe_bm PySem.F.plainAttrs_list PySem.F.slot_list_append PySem.F.type_list_append mt_append (pv 2) (pa_cons (pd_tup (pda_cons (pd_tup (pda_cons (pd_call G_law_near (hr.mono (by decide)) (pda_cons (pd_var (pv 7)) pda_nil)) (pda_cons (pd_call G_law_near (hr.mono (by decide)) (pda_cons (pd_var (pv 8)) pda_nil)) pda_nil))) (pda_cons (pd_tup (pda_cons pd_str (pda_cons (pd_var (pv 5)) (pda_cons (pd_item (pd_var (pv 1)) (pd_var (pv 3))) pda_nil)))) pda_nil))) pa_nil))))) pds_nil))))))))) (pds_one (pds_frz 2 (pds_ret (PDo.pd (pdo_cb (call_sortC rfl (hu65 hr)) cdo_sorted B.b_sorted (by decide +kernel) (pda_cons (pd_var (pv 2)) pda_nil)))))))))
theorem ok_law_hot (B : Bf mg) (G_law_causes : Gd P w K mg base "_law_causes" 4 [] c_law_causes)  (F : FunD K "_law_hot" "_law_hot" (defArgs s_law_hot) (defBody s_law_hot) (defScope s_law_hot) dvs [] a fd) : FnOk P w K mg base CX0 5 a fd ["_law_heap"] (spD K c_law_hot) := by
  refine fn_okD (k := 4) F sc_law_hot fun cdv A outer s H E hr => ?_
  exact (pds_cons (pds_setO (i := 1) sc_law_hot.nd rfl (Or.inl rfl) pdo_dict0) (pds_cons (pds_for (vs := [2, 3]) (rg_tup (rg_cons (rg_nm (by decide)) (rg_cons (rg_nm (by decide)) rg_nil))) PassesOwn.never rfl (pdi_seq (pd_call G_law_causes (hr.mono (by decide)) (pda_cons (pd_var (pv 0)) pda_nil))) (pg_tup rfl (pgs_cons (pg_name (i := 2) sc_law_hot.nd rfl (Or.inl rfl)) (pgs_cons (pg_name (i := 3) sc_law_hot.nd rfl (Or.inl rfl)) pgs_nil))) (pds_one (pds_put (i := 1) (hu65 hr) (pv 1) (pd_var (pv 2)) pd_bl))) (pds_one (pds_frz 1 (pds_ret (PDo.pd (pdo_cb (call_sortC rfl (hu65 hr)) cdo_sorted B.b_sorted (by decide +kernel) (pda_cons (pd_var (pv 1)) pda_nil))))))))
theorem ok_law (B : Bf mg) (G_law_bag : Gd P w K mg base "_law_bag" 1 [] bagD) (G_law_pull : Gd P w K mg base "_law_pull" 1 [] pullD) (G_law_strokes : Gd P w K mg base "_law_strokes" 5 [] c_law_strokes) (G_law_causes : Gd P w K mg base "_law_causes" 4 [] c_law_causes) (G_causes : GdO P w K mg base "causes" 5 [] c_causesO) (G_hot : GdO P w K mg base "hot" 6 [] c_hotO) (G_law_hot : Gd P w K mg base "_law_hot" 5 [] c_law_hot) (G_law_like : Gd P w K mg base "_law_like" 8 [] (c_law_like 8)) (G_law_spot : Gd P w K mg base "_law_spot" 2 [] c_law_spot) (G_law_of : Gd P w K mg base "_law_of" 2 [] c_law_of) (G_why : GdO P w K mg base "why" 6 [] c_whyO)  (F : FunD K "law" "law" (defArgs s_law) (defBody s_law) (defScope s_law) dvs [] a fd) : FnOk P w K mg base CX0 9 a fd ["_law_script"] (spD K c_law_k11) := by
  refine fn_okD (k := 8) F sc_law fun cdv A outer s H E hr => ?_
  exact (pds_cons (pds_set (i := 1) sc_law.nd rfl (Or.inl rfl) (pd_call G_law_bag (hr.mono (by decide)) (pda_cons (pd_var (pv 0)) pda_nil))) (pds_cons (pds_for (vs := [2]) (rg_nm (by decide)) PassesOwn.never rfl (pdi_range1 B.b_range (pda_cons pd_int pda_nil)) (pg_name (i := 2) sc_law.nd rfl (Or.inl rfl)) (pds_cons (pds_set (i := 3) sc_law.nd rfl (Or.inr rfl) (pd_call G_law_strokes (hr.mono (by decide)) (pda_cons (pd_var (pv 1)) (pda_cons (pd_item (pd_lst (pda_cons (pd_call G_law_pull (hr.mono (by decide)) (pda_cons (pd_var (pv 1)) (pda_cons pd_int pda_nil))) (pda_cons (pd_add pd_int (pd_call G_law_pull (hr.mono (by decide)) (pda_cons (pd_var (pv 1)) (pda_cons pd_int pda_nil)))) pda_nil))) (pd_ct call_int1 cd_int B.b_int (by decide +kernel) (pda_cons (pd_cmp (op_eqD hr.units) od_eq (nomark _) (pd_call G_law_pull (hr.mono (by decide)) (pda_cons (pd_var (pv 1)) (pda_cons pd_int pda_nil))) pd_int) pda_nil))) pda_nil)))) (pds_cons (pds_set (i := 4) sc_law.nd rfl (Or.inl rfl) (PDo.pd (pdo_ct (call_dictC rfl (hu65 hr)) cdo_dict B.b_dict (by decide +kernel) (pda_cons (pd_lc (own := [("_law_k", 12)]) (rg_nm (by decide)) rfl sc_law.nd (pdi_range1 B.b_range (pda_cons (pd_cb call_len cd_len B.b_len (by decide +kernel) (pda_cons (pd_var (pv 3)) pda_nil)) pda_nil)) (blkOk_by (own := [("_law_k", 12)]) (N := n_law) (sc := defScope s_law) (by decide +kernel)) (fun _ _ _ _ _ => (pg_name (i := 12) sc_law.nd rfl (Or.inl rfl))) (fun _ _ _ _ _ => pdts_nil) (fun _ _ _ _ _ => (pd_tup (pda_cons (pd_mulS (pd_itemS pd_str (pd_mod (pd_var (pv 12)) pd_int)) (pd_add pd_int (pd_fdiv (pd_var (pv 12)) pd_int))) (pda_cons (pd_item (pd_var (pv 3)) (pd_var (pv 12))) pda_nil))))) pda_nil)))) (pds_cons (pds_par (i := 8) (j := 9) rfl sc_law.nd rfl rfl (by decide) rfl rfl (pda_cons (PDo.pd (pdo_ct call_dictD cdo_copy B.b_dict (by decide +kernel) (pda_cons (pd_var (pv 4)) pda_nil))) (pda_cons (pd_call G_law_causes (hr.mono (by decide)) (pda_cons (pd_var (pv 4)) pda_nil)) pda_nil)) (by rfl)) (pds_cons (pds_for (vs := [5]) (rg_nm (by decide)) PassesOwn.never rfl (pdi_range1 B.b_range (pda_cons pd_int pda_nil)) (pg_name (i := 5) sc_law.nd rfl (Or.inl rfl)) (pds_nest (i := 10) sc_law.nd rfl (Or.inl rfl) (pdo_call G_causes (hr.mono (by decide)) (pda_cons (pd_var (pv 8)) pda_nil)) (pdo_call G_hot (hr.mono (by decide)) (pda_cons (pd_var (pv 8)) pda_nil)) (pdt_w (pdw_or (pdt_not (pdt_val (pd_call G_law_like (hr.mono (by decide)) (pda_cons (pd_var (pv 10)) (pda_cons (pd_lst (pda_cons (pd_var (pv 9)) (pda_cons (pd_call G_law_hot (hr.mono (by decide)) (pda_cons (pd_var (pv 4)) pda_nil)) pda_nil))) pda_nil))))) (pdw_or1 (pdt_cmp (op_neDec (hu65 hr)) od_neDec (nomark _) (pd_var (pv 8)) (pd_var (pv 4)))))) (pds_one (pds_ret pd_bl)) (pe_bm PySem.F.plainAttrs_list PySem.F.slot_list_append PySem.F.type_list_append mt_append (pe_ix ix_list (pv 10) pe_int (fun _ _ => rfl)) (pa_cons (pd_tup (pda_cons (pd_tup (pda_cons pd_int (pda_cons pd_int pda_nil))) (pda_cons (pd_tup (pda_cons pd_str (pda_cons pd_str (pda_cons pd_int pda_nil)))) pda_nil))) pa_nil)) (pe_bm0 PySem.F.plainAttrs_list PySem.F.slot_list_clear PySem.F.type_list_clear mt_clear (pe_ix ix_list (pv 10) pe_int (fun _ _ => rfl))) pds_nil)) (pds_cons (pds_set (i := 6) sc_law.nd rfl (Or.inl rfl) (pd_add (pd_call G_law_hot (hr.mono (by decide)) (pda_cons (pd_var (pv 4)) pda_nil)) (pd_lst (pda_cons (pd_call G_law_spot (hr.mono (by decide)) (pda_cons (pd_var (pv 1)) (pda_cons (pd_tup (pda_cons pd_int (pda_cons pd_int pda_nil))) (pda_cons pd_int pda_nil)))) pda_nil)))) (pds_one (pds_for (vs := [7]) (rg_nm (by decide)) PassesOwn.never rfl (pdi_seq (pd_lst (pda_cons (pd_call G_law_of (hr.mono (by decide)) (pda_cons (pd_var (pv 1)) (pda_cons (pd_var (pv 6)) pda_nil))) (pda_cons (pd_call G_law_of (hr.mono (by decide)) (pda_cons (pd_var (pv 1)) (pda_cons (pd_var (pv 6)) pda_nil))) (pda_cons (pd_item (pd_var (pv 6)) (pd_neg pd_int)) pda_nil))))) (pg_name (i := 7) sc_law.nd rfl (Or.inr rfl)) (pds_cons (pds_setO (i := 11) sc_law.nd rfl (Or.inl rfl) (pdo_call G_why (hr.mono (by decide)) (pda_cons (pd_var (pv 8)) (pda_cons (pd_var (pv 7)) pda_nil)))) (pds_cons (pds_if (pdt_bor 11 (pdt_not (pdt_val (pd_call G_law_like (hr.mono (by decide)) (pda_cons (pd_var (pv 11)) (pda_cons (pd_lc (own := [("_law_at", 13), ("_law_cause", 14)]) (rg_tup (rg_cons (rg_nm (by decide)) (rg_cons (rg_nm (by decide)) rg_nil))) rfl sc_law.nd (pdi_seq (pd_var (pv 9))) (blkOk_by (own := [("_law_at", 13), ("_law_cause", 14)]) (N := n_law) (sc := defScope s_law) (by decide +kernel)) (fun _ _ _ _ _ => (pg_tup rfl (pgs_cons (pg_name (i := 13) sc_law.nd rfl (Or.inl rfl)) (pgs_cons (pg_name (i := 14) sc_law.nd rfl (Or.inl rfl)) pgs_nil)))) (fun _ _ _ _ _ => (pdts_one (pdt_cmp (op_eqD hr.units) od_eq (nomark _) (pd_var (pv 13)) (pd_var (pv 7))))) (fun _ _ _ _ _ => (pd_var (pv 14)))) pda_nil)))))) (pds_one (pds_ret pd_bl)) pds_nil) (pds_cons (pds_append (i := 11) (pe_bm PySem.F.plainAttrs_list PySem.F.slot_list_append PySem.F.type_list_append mt_append (pv 11) (pa_cons (pd_tup (pda_cons pd_str (pda_cons pd_str (pda_cons pd_int pda_nil)))) pa_nil))) (pds_one (pds_frz 11 (pds_if (pdt_cmp (op_eqD hr.units) od_eq (nomark _) (PDo.pd (pdo_call G_why (hr.mono (by decide)) (pda_cons (pd_var (pv 8)) (pda_cons (pd_var (pv 7)) pda_nil)))) (pd_var (pv 11))) (pds_one (pds_ret pd_bl)) pds_nil)))))))))))))) (pds_one (pds_ret (pd_and (pd_cmp (op_eqD hr.units) od_eq (nomark _) (PDo.pd (pdo_call G_causes (hr.mono (by decide)) (pda_cons (PDo.pd pdo_dict0) pda_nil))) (pd_lst pda_nil)) (pd_one (pd_cmp (op_eqD hr.units) od_eq (nomark _) (PDo.pd (pdo_call G_hot (hr.mono (by decide)) (pda_cons (PDo.pd pdo_dict0) pda_nil))) (pd_lst pda_nil))))))))
end
end K11

namespace K11
open PySem PySem.Spec PyProof.Rows L2 DV
/-! ### the head: facts by names, the run -/
def d_greatest : He.DefD := ⟨("greatest", none), "greatest", "greatest", defArgs s_greatest, defBody s_greatest, defScope s_greatest, [], []⟩
def d_lowest : He.DefD := ⟨("lowest", none), "lowest", "lowest", defArgs s_lowest, defBody s_lowest, defScope s_lowest, [.int 1], []⟩
def d_plus : He.DefD := ⟨("plus", none), "plus", "plus", defArgs s_plus, defBody s_plus, defScope s_plus, [], []⟩
def d_below : He.DefD := ⟨("below", none), "below", "below", defArgs s_below, defBody s_below, defScope s_below, [], []⟩
def d_nearest : He.DefD := ⟨("nearest", none), "nearest", "nearest", defArgs s_nearest, defBody s_nearest, defScope s_nearest, [], []⟩
def d_square_of : He.DefD := ⟨("square_of", none), "square_of", "square_of", defArgs s_square_of, defBody s_square_of, defScope s_square_of, [], []⟩
def d_common : He.DefD := ⟨("common", none), "common", "common", defArgs s_common, defBody s_common, defScope s_common, [], []⟩
def d_meet : He.DefD := ⟨("meet", none), "meet", "meet", defArgs s_meet, defBody s_meet, defScope s_meet, [], []⟩
def d_causes : He.DefD := ⟨("causes", none), "causes", "causes", defArgs s_causes, defBody s_causes, defScope s_causes, [], []⟩
def d_hot : He.DefD := ⟨("hot", none), "hot", "hot", defArgs s_hot, defBody s_hot, defScope s_hot, [], []⟩
def d_why : He.DefD := ⟨("why", none), "why", "why", defArgs s_why, defBody s_why, defScope s_why, [], []⟩
def d_law_bag : He.DefD := ⟨("_law_bag", none), "_law_bag", "_law_bag", defArgs s_law_bag, defBody s_law_bag, defScope s_law_bag, [], []⟩
def d_law_pull : He.DefD := ⟨("_law_pull", none), "_law_pull", "_law_pull", defArgs s_law_pull, defBody s_law_pull, defScope s_law_pull, [], []⟩
def d_law_of : He.DefD := ⟨("_law_of", none), "_law_of", "_law_of", defArgs s_law_of, defBody s_law_of, defScope s_law_of, [], []⟩
def d_law_like : He.DefD := ⟨("_law_like", none), "_law_like", "_law_like", defArgs s_law_like, defBody s_law_like, defScope s_law_like, [], []⟩
def d_law_common : He.DefD := ⟨("_law_common", none), "_law_common", "_law_common", defArgs s_law_common, defBody s_law_common, defScope s_law_common, [], []⟩
def d_law_low : He.DefD := ⟨("_law_low", none), "_law_low", "_law_low", defArgs s_law_low, defBody s_law_low, defScope s_law_low, [], []⟩
def d_law_near : He.DefD := ⟨("_law_near", none), "_law_near", "_law_near", defArgs s_law_near, defBody s_law_near, defScope s_law_near, [], []⟩
def d_law_clipped : He.DefD := ⟨("_law_clipped", none), "_law_clipped", "_law_clipped", defArgs s_law_clipped, defBody s_law_clipped, defScope s_law_clipped, [], []⟩
def d_law_spot : He.DefD := ⟨("_law_spot", none), "_law_spot", "_law_spot", defArgs s_law_spot, defBody s_law_spot, defScope s_law_spot, [], []⟩
def d_law_base : He.DefD := ⟨("_law_base", none), "_law_base", "_law_base", defArgs s_law_base, defBody s_law_base, defScope s_law_base, [], []⟩
def d_law_stroke : He.DefD := ⟨("_law_stroke", none), "_law_stroke", "_law_stroke", defArgs s_law_stroke, defBody s_law_stroke, defScope s_law_stroke, [], []⟩
def d_law_beside : He.DefD := ⟨("_law_beside", none), "_law_beside", "_law_beside", defArgs s_law_beside, defBody s_law_beside, defScope s_law_beside, [], []⟩
def d_law_posts : He.DefD := ⟨("_law_posts", none), "_law_posts", "_law_posts", defArgs s_law_posts, defBody s_law_posts, defScope s_law_posts, [], []⟩
def d_law_strokes : He.DefD := ⟨("_law_strokes", none), "_law_strokes", "_law_strokes", defArgs s_law_strokes, defBody s_law_strokes, defScope s_law_strokes, [], []⟩
def d_law_cross : He.DefD := ⟨("_law_cross", none), "_law_cross", "_law_cross", defArgs s_law_cross, defBody s_law_cross, defScope s_law_cross, [], []⟩
def d_law_meet : He.DefD := ⟨("_law_meet", none), "_law_meet", "_law_meet", defArgs s_law_meet, defBody s_law_meet, defScope s_law_meet, [], []⟩
def d_law_causes : He.DefD := ⟨("_law_causes", none), "_law_causes", "_law_causes", defArgs s_law_causes, defBody s_law_causes, defScope s_law_causes, [], []⟩
def d_law_hot : He.DefD := ⟨("_law_hot", none), "_law_hot", "_law_hot", defArgs s_law_hot, defBody s_law_hot, defScope s_law_hot, [], []⟩
def d_law : He.DefD := ⟨("law", none), "law", "law", defArgs s_law, defBody s_law, defScope s_law, [], []⟩
def fnL : List He.DefD := [d_greatest, d_lowest, d_plus, d_below, d_nearest, d_square_of, d_common, d_meet, d_causes, d_hot, d_why, d_law_bag, d_law_pull, d_law_of, d_law_like, d_law_common, d_law_low, d_law_near, d_law_clipped, d_law_spot, d_law_base, d_law_stroke, d_law_beside, d_law_posts, d_law_strokes, d_law_cross, d_law_meet, d_law_causes, d_law_hot, d_law]
def faL : List He.Fa := [.glo "greatest", .glo "lowest", .glo "plus", .glo "below", .glo "nearest", .glo "square_of", .glo "common", .glo "meet", .glo "causes", .glo "hot", .glo "why", .glo "_law_bag", .glo "_law_pull", .glo "_law_of", .glo "_law_like", .glo "_law_common", .glo "_law_low", .glo "_law_near", .glo "_law_clipped", .glo "_law_spot", .glo "_law_base", .glo "_law_stroke", .glo "_law_beside", .glo "_law_posts", .glo "_law_strokes", .glo "_law_cross", .glo "_law_meet", .glo "_law_causes", .glo "_law_hot", .glo "law", .free "abs", .free "all", .free "bool", .free "dict", .free "enumerate", .free "int", .free "isinstance", .free "len", .free "list", .free "max", .free "min", .free "range", .free "sorted", .free "tuple"]
abbrev R : PySem.W.OpenRow := PySem.W.OpenLaw.row PySem.Challenge.rw_dotmoor_k11_what_makes_a_square_hot
abbrev hk : PySem.W.Hook := He.hookD 4 faL fnL
def ob (s : PySem.W.SharedT) : He.AlD := He.obsDG 4 faL fnL (HandSHeadRun.getT s)
theorem ob_eq (s : PySem.W.SharedT) : ob s = hk.obs s.abs := He.obsDG_eq (HandSHeadRun.getT_eq s)
set_option maxHeartbeats 0 in
theorem run (w : World) : HandSHeadRun.RunEq R (PySem.W.view R.prog [36]) hk ob 1500 ["DotError", "BadPart", "greatest", "lowest", "plus", "below", "nearest", "square_of", "common", "meet", "causes", "hot", "why", "_law_bag", "_law_pull", "_law_of", "_law_like", "_law_common", "_law_low", "_law_near", "_law_clipped", "_law_spot", "_law_base", "_law_stroke", "_law_beside", "_law_posts", "_law_strokes", "_law_cross", "_law_meet", "_law_causes", "_law_hot"] w := by
  intro os
  kernel_rfl
theorem facts {P : Program} {w : World} {K : PySem.W.Frag} {h : Heap} {mg : Str → Option Value} {f : Addr} (X : K.In h) (G : h.Ns mainGlobals mg) (hfa : mg ("law" : Str) = some (.ref f)) (c : He.SaysD faL fnL K) :
    ∃ fd : FuncData, (∀ (s : Shared) (v : Value), BindsTo s fd ⟨[v], []⟩ [("_law_script", v)]) ∧ ∀ base : Heap, K.In base → base.Ns mainGlobals mg → FnOk P w K mg base CX0 9 f fd ["_law_script"] (spD K c_law_k11) := by
  have B : Bf mg := ⟨He.free_ok X G (c.fact 30 (f := .free "abs") rfl), He.free_ok X G (c.fact 31 (f := .free "all") rfl), He.free_ok X G (c.fact 32 (f := .free "bool") rfl), He.free_ok X G (c.fact 33 (f := .free "dict") rfl), He.free_ok X G (c.fact 34 (f := .free "enumerate") rfl), He.free_ok X G (c.fact 35 (f := .free "int") rfl), He.free_ok X G (c.fact 36 (f := .free "isinstance") rfl), He.free_ok X G (c.fact 37 (f := .free "len") rfl), He.free_ok X G (c.fact 38 (f := .free "list") rfl), He.free_ok X G (c.fact 39 (f := .free "max") rfl), He.free_ok X G (c.fact 40 (f := .free "min") rfl), He.free_ok X G (c.fact 41 (f := .free "range") rfl), He.free_ok X G (c.fact 42 (f := .free "sorted") rfl), He.free_ok X G (c.fact 43 (f := .free "tuple") rfl)⟩
  obtain ⟨fd_greatest, F_greatest⟩ := c.def_ 0 (d := d_greatest) rfl
  obtain ⟨fd_lowest, F_lowest⟩ := c.def_ 1 (d := d_lowest) rfl
  obtain ⟨fd_plus, F_plus⟩ := c.def_ 2 (d := d_plus) rfl
  obtain ⟨fd_below, F_below⟩ := c.def_ 3 (d := d_below) rfl
  obtain ⟨fd_nearest, F_nearest⟩ := c.def_ 4 (d := d_nearest) rfl
  obtain ⟨fd_square_of, F_square_of⟩ := c.def_ 5 (d := d_square_of) rfl
  obtain ⟨fd_common, F_common⟩ := c.def_ 6 (d := d_common) rfl
  obtain ⟨fd_meet, F_meet⟩ := c.def_ 7 (d := d_meet) rfl
  obtain ⟨fd_causes, F_causes⟩ := c.def_ 8 (d := d_causes) rfl
  obtain ⟨fd_hot, F_hot⟩ := c.def_ 9 (d := d_hot) rfl
  obtain ⟨fd_why, F_why⟩ := c.def_ 10 (d := d_why) rfl
  obtain ⟨fd_law_bag, F_law_bag⟩ := c.def_ 11 (d := d_law_bag) rfl
  obtain ⟨fd_law_pull, F_law_pull⟩ := c.def_ 12 (d := d_law_pull) rfl
  obtain ⟨fd_law_of, F_law_of⟩ := c.def_ 13 (d := d_law_of) rfl
  obtain ⟨fd_law_like, F_law_like⟩ := c.def_ 14 (d := d_law_like) rfl
  obtain ⟨fd_law_common, F_law_common⟩ := c.def_ 15 (d := d_law_common) rfl
  obtain ⟨fd_law_low, F_law_low⟩ := c.def_ 16 (d := d_law_low) rfl
  obtain ⟨fd_law_near, F_law_near⟩ := c.def_ 17 (d := d_law_near) rfl
  obtain ⟨fd_law_clipped, F_law_clipped⟩ := c.def_ 18 (d := d_law_clipped) rfl
  obtain ⟨fd_law_spot, F_law_spot⟩ := c.def_ 19 (d := d_law_spot) rfl
  obtain ⟨fd_law_base, F_law_base⟩ := c.def_ 20 (d := d_law_base) rfl
  obtain ⟨fd_law_stroke, F_law_stroke⟩ := c.def_ 21 (d := d_law_stroke) rfl
  obtain ⟨fd_law_beside, F_law_beside⟩ := c.def_ 22 (d := d_law_beside) rfl
  obtain ⟨fd_law_posts, F_law_posts⟩ := c.def_ 23 (d := d_law_posts) rfl
  obtain ⟨fd_law_strokes, F_law_strokes⟩ := c.def_ 24 (d := d_law_strokes) rfl
  obtain ⟨fd_law_cross, F_law_cross⟩ := c.def_ 25 (d := d_law_cross) rfl
  obtain ⟨fd_law_meet, F_law_meet⟩ := c.def_ 26 (d := d_law_meet) rfl
  obtain ⟨fd_law_causes, F_law_causes⟩ := c.def_ 27 (d := d_law_causes) rfl
  obtain ⟨fd_law_hot, F_law_hot⟩ := c.def_ 28 (d := d_law_hot) rfl
  obtain ⟨fd_law, F_law⟩ := c.def_ 29 (d := d_law) rfl
  have e := hfa.symm.trans (He.glo_ok X G (c.fact 29 (f := .glo "law") rfl))
  cases e
  have bl := FunD.bindsA (ps := ["_law_script"]) F_law fun _ _ _ _ _ _ us hl => match us, hl with | [_], _ => rfl
  refine ⟨fd_law, fun s v => bl s [v] rfl, fun base _ _ => ?_⟩
  have O_law_bag := ok_law_bag (P := P) (w := w) (base := base) B  F_law_bag
  have G_law_bag : Gd P w K mg base "_law_bag" 1 [] bagD := mkGd (He.glo_ok X G (c.fact 11 (f := .glo "_law_bag") rfl)) F_law_bag.kp O_law_bag ⟨[], .nil, FunD.bindsN F_law_bag fun _ _ _ _ _ _ us hl => match us, hl with | [_], _ => rfl⟩ (fun _ => .nil)
  have O_law_pull := ok_law_pull (P := P) (w := w) (base := base) B  F_law_pull
  have G_law_pull : Gd P w K mg base "_law_pull" 1 [] pullD := mkGd (He.glo_ok X G (c.fact 12 (f := .glo "_law_pull") rfl)) F_law_pull.kp O_law_pull ⟨[], .nil, FunD.bindsN F_law_pull fun _ _ _ _ _ _ us hl => match us, hl with | [_, _], _ => rfl⟩ (fun _ => .nil)
  have O_greatest := ok_greatest (P := P) (w := w) (base := base) B   F_greatest
  have G_greatest : Gd P w K mg base "greatest" 1 [] c_greatest := mkGd (He.glo_ok X G (c.fact 0 (f := .glo "greatest") rfl)) F_greatest.kp O_greatest ⟨[], .nil, FunD.bindsN F_greatest fun _ _ _ _ _ _ us hl => match us, hl with | [_, _], _ => rfl⟩ (fun _ => .nil)
  have O_lowest := ok_lowest (P := P) (w := w) (base := base) B G_greatest  F_lowest
  have G_lowest : Gd P w K mg base "lowest" 2 [] c_lowest := mkGd (He.glo_ok X G (c.fact 1 (f := .glo "lowest") rfl)) F_lowest.kp O_lowest (FunD.binds1 F_lowest 2 1 (fun z => nomatch z) (by rfl) fun T kV doc pm an cdv ct us its hu hi => match us, its, hu, hi with | [_, _], [_], _, _ => ⟨_, rfl, rfl⟩) (fun _ => .nil)
  have O_plus := ok_plus (P := P) (w := w) (base := base) B G_lowest  F_plus
  have G_plus : Gd P w K mg base "plus" 3 [] c_plus := mkGd (He.glo_ok X G (c.fact 2 (f := .glo "plus") rfl)) F_plus.kp O_plus ⟨[], .nil, FunD.bindsN F_plus fun _ _ _ _ _ _ us hl => match us, hl with | [_, _], _ => rfl⟩ (fun _ => .nil)
  have O_below := ok_below (P := P) (w := w) (base := base) B   F_below
  have G_below : Gd P w K mg base "below" 1 [] c_below := mkGd (He.glo_ok X G (c.fact 3 (f := .glo "below") rfl)) F_below.kp O_below ⟨[], .nil, FunD.bindsN F_below fun _ _ _ _ _ _ us hl => match us, hl with | [_, _], _ => rfl⟩ (fun _ => .nil)
  have O_nearest := ok_nearest (P := P) (w := w) (base := base) B   F_nearest
  have G_nearest : Gd P w K mg base "nearest" 1 [] c_nearest := mkGd (He.glo_ok X G (c.fact 4 (f := .glo "nearest") rfl)) F_nearest.kp O_nearest ⟨[], .nil, FunD.bindsN F_nearest fun _ _ _ _ _ _ us hl => match us, hl with | [_], _ => rfl⟩ (fun _ => .nil)
  have O_square_of := ok_square_of (P := P) (w := w) (base := base) B G_nearest  F_square_of
  have G_square_of : Gd P w K mg base "square_of" 2 [] c_square_of := mkGd (He.glo_ok X G (c.fact 5 (f := .glo "square_of") rfl)) F_square_of.kp O_square_of ⟨[], .nil, FunD.bindsN F_square_of fun _ _ _ _ _ _ us hl => match us, hl with | [_], _ => rfl⟩ (fun _ => .nil)
  have O_common := ok_common (P := P) (w := w) (base := base) B   F_common
  have G_common : Gd P w K mg base "common" 1 [] c_common := mkGd (He.glo_ok X G (c.fact 6 (f := .glo "common") rfl)) F_common.kp O_common ⟨[], .nil, FunD.bindsN F_common fun _ _ _ _ _ _ us hl => match us, hl with | [_, _], _ => rfl⟩ (fun _ => .nil)
  have O_meet := ok_meet (P := P) (w := w) (base := base) B G_common G_lowest G_below G_plus  F_meet
  have G_meet : Gd P w K mg base "meet" 4 [] c_meet := mkGd (He.glo_ok X G (c.fact 7 (f := .glo "meet") rfl)) F_meet.kp O_meet ⟨[], .nil, FunD.bindsN F_meet fun _ _ _ _ _ _ us hl => match us, hl with | [_, _], _ => rfl⟩ (fun _ => .nil)
  have O_causes := ok_causes (P := P) (w := w) (base := base) B G_meet G_square_of  F_causes
  have G_causes : GdO P w K mg base "causes" 5 [] c_causesO := mkGdO (He.glo_ok X G (c.fact 8 (f := .glo "causes") rfl)) F_causes.kp O_causes ⟨[], .nil, FunD.bindsN F_causes fun _ _ _ _ _ _ us hl => match us, hl with | [_], _ => rfl⟩ (fun _ => .nil)
  have O_hot := ok_hot (P := P) (w := w) (base := base) B G_causes  F_hot
  have G_hot : GdO P w K mg base "hot" 6 [] c_hotO := mkGdO (He.glo_ok X G (c.fact 9 (f := .glo "hot") rfl)) F_hot.kp O_hot ⟨[], .nil, FunD.bindsN F_hot fun _ _ _ _ _ _ us hl => match us, hl with | [_], _ => rfl⟩ (fun _ => .nil)
  have O_why := ok_why (P := P) (w := w) (base := base) B G_causes  F_why
  have G_why : GdO P w K mg base "why" 6 [] c_whyO := mkGdO (He.glo_ok X G (c.fact 10 (f := .glo "why") rfl)) F_why.kp O_why ⟨[], .nil, FunD.bindsN F_why fun _ _ _ _ _ _ us hl => match us, hl with | [_, _], _ => rfl⟩ (fun _ => .nil)
  have O_law_of := ok_law_of (P := P) (w := w) (base := base) B G_law_pull  F_law_of
  have G_law_of : Gd P w K mg base "_law_of" 2 [] c_law_of := mkGd (He.glo_ok X G (c.fact 13 (f := .glo "_law_of") rfl)) F_law_of.kp O_law_of ⟨[], .nil, FunD.bindsN F_law_of fun _ _ _ _ _ _ us hl => match us, hl with | [_, _], _ => rfl⟩ (fun _ => .nil)
  have b_law_like : Binds K fd_law_like ["_law_found", "_law_due"] [] := FunD.bindsN F_law_like fun _ _ _ _ _ _ us hl => match us, hl with | [_, _], _ => rfl
  have O_law_like := ok_law_like (P := P) (w := w) (base := base) B (He.glo_ok X G (c.fact 14 (f := .glo "_law_like") rfl)) b_law_like  F_law_like 8
  have G_law_like : Gd P w K mg base "_law_like" 8 [] (c_law_like 8) := mkGd (He.glo_ok X G (c.fact 14 (f := .glo "_law_like") rfl)) F_law_like.kp O_law_like ⟨[], .nil, FunD.bindsN F_law_like fun _ _ _ _ _ _ us hl => match us, hl with | [_, _], _ => rfl⟩ (fun _ => .nil)
  have O_law_common := ok_law_common (P := P) (w := w) (base := base) B   F_law_common
  have G_law_common : Gd P w K mg base "_law_common" 1 [] c_greatest := mkGd (He.glo_ok X G (c.fact 15 (f := .glo "_law_common") rfl)) F_law_common.kp O_law_common ⟨[], .nil, FunD.bindsN F_law_common fun _ _ _ _ _ _ us hl => match us, hl with | [_, _], _ => rfl⟩ (fun _ => .nil)
  have O_law_low := ok_law_low (P := P) (w := w) (base := base) B G_law_common  F_law_low
  have G_law_low : Gd P w K mg base "_law_low" 2 [] c_law_low := mkGd (He.glo_ok X G (c.fact 16 (f := .glo "_law_low") rfl)) F_law_low.kp O_law_low ⟨[], .nil, FunD.bindsN F_law_low fun _ _ _ _ _ _ us hl => match us, hl with | [_, _], _ => rfl⟩ (fun _ => .nil)
  have O_law_near := ok_law_near (P := P) (w := w) (base := base) B   F_law_near
  have G_law_near : Gd P w K mg base "_law_near" 1 [] c_nearest := mkGd (He.glo_ok X G (c.fact 17 (f := .glo "_law_near") rfl)) F_law_near.kp O_law_near ⟨[], .nil, FunD.bindsN F_law_near fun _ _ _ _ _ _ us hl => match us, hl with | [_], _ => rfl⟩ (fun _ => .nil)
  have O_law_clipped := ok_law_clipped (P := P) (w := w) (base := base) B   F_law_clipped
  have G_law_clipped : Gd P w K mg base "_law_clipped" 1 [] c_law_clipped := mkGd (He.glo_ok X G (c.fact 18 (f := .glo "_law_clipped") rfl)) F_law_clipped.kp O_law_clipped ⟨[], .nil, FunD.bindsN F_law_clipped fun _ _ _ _ _ _ us hl => match us, hl with | [_], _ => rfl⟩ (fun _ => .nil)
  have O_law_spot := ok_law_spot (P := P) (w := w) (base := base) B G_law_pull G_law_clipped  F_law_spot
  have G_law_spot : Gd P w K mg base "_law_spot" 2 [] c_law_spot := mkGd (He.glo_ok X G (c.fact 19 (f := .glo "_law_spot") rfl)) F_law_spot.kp O_law_spot ⟨[], .nil, FunD.bindsN F_law_spot fun _ _ _ _ _ _ us hl => match us, hl with | [_, _, _], _ => rfl⟩ (fun _ => .nil)
  have O_law_base := ok_law_base (P := P) (w := w) (base := base) B G_law_pull G_law_of  F_law_base
  have G_law_base : Gd P w K mg base "_law_base" 3 [] c_law_base := mkGd (He.glo_ok X G (c.fact 20 (f := .glo "_law_base") rfl)) F_law_base.kp O_law_base ⟨[], .nil, FunD.bindsN F_law_base fun _ _ _ _ _ _ us hl => match us, hl with | [_], _ => rfl⟩ (fun _ => .nil)
  have O_law_stroke := ok_law_stroke (P := P) (w := w) (base := base) B G_law_spot  F_law_stroke
  have G_law_stroke : Gd P w K mg base "_law_stroke" 3 [] c_law_stroke := mkGd (He.glo_ok X G (c.fact 21 (f := .glo "_law_stroke") rfl)) F_law_stroke.kp O_law_stroke ⟨[], .nil, FunD.bindsN F_law_stroke fun _ _ _ _ _ _ us hl => match us, hl with | [_, _, _], _ => rfl⟩ (fun _ => .nil)
  have O_law_beside := ok_law_beside (P := P) (w := w) (base := base) B G_law_stroke G_law_pull G_law_of  F_law_beside
  have G_law_beside : Gd P w K mg base "_law_beside" 4 [] c_law_beside := mkGd (He.glo_ok X G (c.fact 22 (f := .glo "_law_beside") rfl)) F_law_beside.kp O_law_beside ⟨[], .nil, FunD.bindsN F_law_beside fun _ _ _ _ _ _ us hl => match us, hl with | [_, _, _, _], _ => rfl⟩ (fun _ => .nil)
  have O_law_posts := ok_law_posts (P := P) (w := w) (base := base) B G_law_pull  F_law_posts
  have G_law_posts : GdO P w K mg base "_law_posts" 2 [] c_law_postsO := mkGdO (He.glo_ok X G (c.fact 23 (f := .glo "_law_posts") rfl)) F_law_posts.kp O_law_posts ⟨[], .nil, FunD.bindsN F_law_posts fun _ _ _ _ _ _ us hl => match us, hl with | [_, _], _ => rfl⟩ (fun _ => .nil)
  have O_law_strokes := ok_law_strokes (P := P) (w := w) (base := base) B G_law_of G_law_base G_law_pull G_law_posts G_law_beside  F_law_strokes
  have G_law_strokes : Gd P w K mg base "_law_strokes" 5 [] c_law_strokes := mkGd (He.glo_ok X G (c.fact 24 (f := .glo "_law_strokes") rfl)) F_law_strokes.kp O_law_strokes ⟨[], .nil, FunD.bindsN F_law_strokes fun _ _ _ _ _ _ us hl => match us, hl with | [_, _], _ => rfl⟩ (fun _ => .nil)
  have O_law_cross := ok_law_cross (P := P) (w := w) (base := base) B   F_law_cross
  have G_law_cross : Gd P w K mg base "_law_cross" 1 [] c_cross := mkGd (He.glo_ok X G (c.fact 25 (f := .glo "_law_cross") rfl)) F_law_cross.kp O_law_cross ⟨[], .nil, FunD.bindsN F_law_cross fun _ _ _ _ _ _ us hl => match us, hl with | [_, _, _], _ => rfl⟩ (fun _ => .nil)
  have O_law_meet := ok_law_meet (P := P) (w := w) (base := base) B G_law_cross G_law_low  F_law_meet
  have G_law_meet : Gd P w K mg base "_law_meet" 3 [] c_law_meet := mkGd (He.glo_ok X G (c.fact 26 (f := .glo "_law_meet") rfl)) F_law_meet.kp O_law_meet ⟨[], .nil, FunD.bindsN F_law_meet fun _ _ _ _ _ _ us hl => match us, hl with | [_, _], _ => rfl⟩ (fun _ => .nil)
  have O_law_causes := ok_law_causes (P := P) (w := w) (base := base) B G_law_meet G_law_near  F_law_causes
  have G_law_causes : Gd P w K mg base "_law_causes" 4 [] c_law_causes := mkGd (He.glo_ok X G (c.fact 27 (f := .glo "_law_causes") rfl)) F_law_causes.kp O_law_causes ⟨[], .nil, FunD.bindsN F_law_causes fun _ _ _ _ _ _ us hl => match us, hl with | [_], _ => rfl⟩ (fun _ => .nil)
  have O_law_hot := ok_law_hot (P := P) (w := w) (base := base) B G_law_causes  F_law_hot
  have G_law_hot : Gd P w K mg base "_law_hot" 5 [] c_law_hot := mkGd (He.glo_ok X G (c.fact 28 (f := .glo "_law_hot") rfl)) F_law_hot.kp O_law_hot ⟨[], .nil, FunD.bindsN F_law_hot fun _ _ _ _ _ _ us hl => match us, hl with | [_], _ => rfl⟩ (fun _ => .nil)
  exact ok_law B G_law_bag G_law_pull G_law_strokes G_law_causes G_causes G_hot G_law_hot G_law_like G_law_spot G_law_of G_why  F_law
end K11

namespace DV
open PySem PySem.Spec PyProof.Rows L2
local macro_rules | `(tactic| walk_at "dv") => `(tactic| simp (config := { failIfUnchanged := false, implicitDefEqProofs := false }) only [↓k_for_q, ↓e_for_n, ↓e_for_c, ↓k_sAppend1_q, ↓k_sAppend_q, ↓k_sRetOwn_q, ↓k_sPar2_q, ↓k_sPar_q, ↓k_sPar33_q, ↓k_sPar3_q, ↓k_some_q, ↓k_asI_q, ↓k_asS_q, ↓k_rng1_q, ↓k_one_q, ↓k_rng22_q, ↓k_rng21_q, ↓k_rng2_q, ↓k_two_q, ↓k_non_q, ↓k_no_q, ↓k_sSet_q, ↓k_sAsg_q, ↓k_sAsg2_q, ↓k_sIf_q, ↓k_sDrop_q, ↓k_sOwn_q, ↓k_sFor_q, ↓k_gs_q, ↓k_dOp2_q, ↓k_dOp_q, ↓k_dCh4_q, ↓k_dCh3_q, ↓k_dCh2_q, ↓k_dCh1_q, ↓k_dUn_q, ↓k_dTest_q, ↓k_dAnd_q, ↓k_dOr_q, ↓k_dNot_q, ↓k_dAndV_q, ↓k_dOrV_q, ↓k_dIf_q, ↓k_dCons2_q, ↓k_dCons_q, ↓k_dTup_q, ↓k_dLst_q, ↓k_dCall_q, ↓k_dIsi_q, ↓k_dIsi2_q, ↓k_dSl3_q, ↓k_dSl2_q, ↓k_dSl_q, ↓k_dRev_q, ↓k_dLc_q, ↓k_dB_q, ↓chB_b, ↓tsB_b, ↓dVar_s, ↓ownL_o, ↓ownD_o, ↓roL_l, ↓e_sAppend, ↓e_sRetOwn, ↓two_2, ↓three_3, ↓e_sPar, ↓e_sPar3, ↓asI_i, ↓e_dPart, ↓asS_l, ↓asS_t, ↓e_iSeq, ↓one_1, ↓e_iRng1D, ↓e_iRng2D, ↓wipeD_n, ↓wipeD_c, ↓frz_0, ↓frz_0v, ↓frz_s, ↓e_fnD, ↓e_sSeq, ↓e_sNext, ↓e_sBreak, ↓e_sCont, ↓e_sSet, ↓e_sAsg, ↓e_sAsg2, ↓e_sIf, ↓e_sRet, ↓e_sRetN, ↓e_sDrop, ↓e_sNever, ↓e_sOwn, ↓e_sFrz, ↓e_sFor, ↓e_gN, ↓e_gT_t, ↓e_gsNil_n, ↓e_gsCons_c, ↓e_dVar_0, ↓e_dVar_0t, ↓e_dC, ↓e_dOp, ↓e_dChain, ↓e_dUn, ↓e_dTest, ↓e_dAnd, ↓e_dOr, ↓e_dNot, ↓e_dAndV, ↓e_dOrV, ↓e_dIf, ↓e_dNil, ↓e_dCons, ↓e_dTup, ↓e_dLst, ↓e_dCall, ↓e_dB, ↓e_dIsi, ↓e_dIsi2, ↓e_dSl, ↓e_dRev, ↓e_dNo, ↓e_dYes, ↓e_dLc,
  ↓addD_ii, ↓addD_tt, ↓addD_ll, ↓subD_ii, ↓mulD_ii, ↓fdivD_ii, ↓modD_ii, ↓powD_10_9, ↓powD_10_6, ↓ltA_ii, ↓leA_ii, ↓gtA_ii, ↓geA_ii, ↓ltA_t2, ↓leA_t2, ↓gtA_t2, ↓geA_t2, ↓max2A_ii, ↓min2A_ii, ↓max2A_t2, ↓min2A_t2, ↓revD_l, ↓isNon_n, ↓isNon_t, ↓isNon_l, ↓notNon_n, ↓notNon_t, ↓isBD_bb, ↓negD_i, ↓notD_b, ↓absD_i, ↓intC_i, ↓intC_b, ↓lenD_l, ↓lenD_t, ↓listD_l, ↓listD_t, ↓tupleD_l, ↓tupleD_t, ↓allD_l, ↓anyD_l, ↓ixT0, ↓ixT1, ↓ixT2, ↓ixT3, ↓ixL0, ↓ixL1, ↓ixL2, ↓ixL3, ↓slD_l,
  eqD, neD, notInD, sl0, sl1, sl2, sl3, sl4, sl5, sl6, sl7, sl8, sl9, sl10, sl11, sl12, slt0, slt1, slt2, slt3, slt4, slt5, slt6, slt7, slt8, slt9, slt10, slt11, slt12, lay_i, lay_b, lay_n, lay_t0, lay_l0, lay_t2, lay_t4, eqb_ii, eqb_bb, eqb_ss, eqb_nn, eqb_tt, eqb_ll, eqbs_nn, eqbs_cc, eqbs_nc, eqbs_cn, tyOk_n, tyOk_b, tyOk_i, tyOk_s, tyOk_t, tyOk_l, isi_n, isi_b, isi_i, isi_s, isi_t, isi_l,
  List.map_cons, List.map_nil, List.cons_append, List.nil_append, List.append_nil, List.append_assoc, List.length_cons, List.length_nil, List.getElem?_cons_zero, List.getElem?_cons_succ, List.set_cons_zero, List.set_cons_succ, List.replicate, Nat.reduceAdd, Nat.reduceSub, Nat.zero_add, Nat.reduceLeDiff, Nat.reduceEqDiff,
  if_true, if_false, true_and, and_true, and_self, Bool.not_true, Bool.not_false, Bool.false_eq_true, Bool.and_true, Bool.true_and, Bool.or_false, Bool.false_or, Bool.or_true, Bool.true_or, decide_eq_true_eq, decide_true, decide_false, beq_self_eq_true, beq_iff_eq, String.reduceEq, reduceIte, reduceCtorEq])
/-! ### the small defs of program and laws -/
theorem abs_if (a : Int) : (if a < 0 then -a else a) = (a.natAbs : Int) := by split <;> omega
theorem greatest_ok {Q : D → Prop} {a b : Int} (h : Q (.int (Int.gcd a b : Nat))) : c_greatest [.int a, .int b] Q := by
  unfold c_greatest
  walk_at "dv"
  rw [abs_if, abs_if]
  refine ⟨fun m ρ => ∃ x y : Nat, ρ = [.v (.int (x : Int)), .v (.int (y : Int))] ∧ m = y ∧ Nat.gcd x y = Nat.gcd a.natAbs b.natAbs, ⟨_, _, _, rfl, rfl, rfl⟩, ?_⟩
  rintro m ρ ⟨x, y, rfl, rfl, hg⟩
  walk_at "dv"
  by_cases hy : 0 < m
  · have hy' : (0 : Int) < (m : Int) := by omega
    rw [if_pos hy']
    refine ⟨by omega, x % m, Nat.mod_lt _ hy, m, x % m, ?_, rfl, ?_⟩
    · rw [Int.fmod_eq_emod_of_nonneg _ (by omega)]; rfl
    · rw [← hg, Nat.gcd_comm m, ← Nat.gcd_rec, Nat.gcd_comm]
  · have e : m = 0 := by omega
    subst e
    rw [if_neg (by simp)]
    rw [Nat.gcd_zero_right] at hg
    have e2 : (x : Int) = (Int.gcd a b : Nat) := by rw [hg]; rfl
    rw [e2]; exact h
/-- the part in lowest terms -/
def lowD (o u : Int) : D := .tup [.int (o.fdiv (if u < 0 then -(Int.gcd o u : Nat) else (Int.gcd o u : Nat))), .int (u.fdiv (if u < 0 then -(Int.gcd o u : Nat) else (Int.gcd o u : Nat)))]
theorem gcd_small {o u : Int} (hu : u ≠ 0) : 0 < Int.gcd o u ∧ Int.gcd o u ≤ u.natAbs :=
  ⟨Int.gcd_pos_of_ne_zero_right _ hu, Nat.le_of_dvd (by omega) (Nat.gcd_dvd_right _ _)⟩
theorem lowest_ok {Q : D → Prop} {o u : Int} (hu : u ≠ 0) (hb : u.natAbs < 1461501637330902918203684832716283019655932542976) (h : Q (lowD o u)) : c_lowest [.int o, .int u] Q := by
  unfold c_lowest
  walk_at "dv"
  rw [if_neg hu]
  have hg := gcd_small (o := o) hu
  refine greatest_ok ?_
  walk_at "dv"
  unfold lowD at h
  by_cases hn : u < 0
  · rw [if_pos hn] at h ⊢
    walk_at "dv"
    exact ⟨divOk (by omega) (by omega), divOk (by omega) (by omega), h⟩
  · rw [if_neg hn] at h ⊢
    walk_at "dv"
    exact ⟨divOk (by omega) (by omega), divOk (by omega) (by omega), h⟩
theorem law_low_ok {Q : D → Prop} {o u : Int} (hu : u ≠ 0) (hb : u.natAbs < 1461501637330902918203684832716283019655932542976) (h : Q (lowD o u)) : c_law_low [.int o, .int u] Q := by
  unfold c_law_low
  walk_at "dv"
  have hg := gcd_small (o := o) hu
  refine greatest_ok ?_
  walk_at "dv"
  unfold lowD at h
  by_cases hn : u < 0
  · rw [if_pos hn] at h ⊢
    walk_at "dv"
    rw [show (0 : Int) - (Int.gcd o u : Nat) = -(Int.gcd o u : Nat) by omega]
    exact ⟨divOk (by omega) (by omega), divOk (by omega) (by omega), h⟩
  · rw [if_neg hn] at h ⊢
    walk_at "dv"
    exact ⟨divOk (by omega) (by omega), divOk (by omega) (by omega), h⟩
theorem law_of_ok {Q : D → Prop} {d0 : D} {ds : List D} (h1 : ds.length < 1000000) (h : ∀ d ∈ d0 :: ds, Q d) : c_law_of [.bag, .lst (d0 :: ds)] Q := by
  unfold c_law_of
  walk_at "dv"
  exact pull_ok (by omega) (by omega) fun r r0 r1 => ix_all r0 (by rw [List.length_cons]; omega) h
theorem like_ok : ∀ (n : Nat) (d : D) (Q : D → Prop), Lk n d → Q (.bl true) → c_law_like n [d, d] Q := by
  intro n
  induction n with
  | zero => intro d Q h; exact h.elim
  | succ n ih =>
    intro d Q h q
    unfold c_law_like t_law_like
    have leaf : d.tyOk = true → d.lay = true → D.eqb d d = true → isiD "dict" d = false → isiD "tuple" d = false → isiD "list" d = false → (fnD 3 2 (t_law_like (c_law_like n))) [d, d] Q := fun h0 h1 h2 h3 h4 h5 => by
      unfold t_law_like
      walk_at "dv"
      simp only [h0, h1, h2, h3, h4, h5, beq_self_eq_true]
      walk_at "dv"
      exact q
    have seq : ∀ ds : List D, ds.length ≤ 1000000 → (∀ d ∈ ds, Lk n d) → ∀ mk : List D → D, (mk = .tup ∨ mk = .lst) → (fnD 3 2 (t_law_like (c_law_like n))) [mk ds, mk ds] Q := fun ds hl hd mk hm => by
      have body : ∀ sl : Slot, sl = .v (mk ds) → lcD (gN 2) dYes (dCall (c_law_like n) [] (dCons (dOp ixD (dVar 0) (dVar 2)) (dCons (dOp ixD (dVar 1) (dVar 2)) dNil))) [sl, sl, Slot.un] (rngD 0 ((ds.length : Int)).toNat) [] fun x => allD [x] Q := fun sl hs => by
        subst hs
        refine lcD_map (fun _ => .bl true) _ _ _ (fun d hk Q1 q1 => ?_) ?_ ?_
        · obtain ⟨k, hk, rfl⟩ := mem_rng hk
          have hk' : k < ds.length := by omega
          walk_at "dv"
          rw [show (0 : Int) + (k : Int) = ((k : Nat) : Int) by omega]
          rcases hm with rfl | rfl
          · exact ix_natT hk' (ix_natT hk' (ih _ _ (hd _ (List.getElem_mem _)) q1))
          · exact ix_nat hk' (ix_nat hk' (ih _ _ (hd _ (List.getElem_mem _)) q1))
        · have e : sizeLine = 16777216 := sizeLine_eq
          simp [rngD]
          omega
        · walk_at "dv"
          have e1 : ((rngD 0 ((ds.length : Int)).toNat).map fun _ => D.bl true).all isB = true := by simp [isB]
          have e2 : ((rngD 0 ((ds.length : Int)).toNat).map fun _ => D.bl true).all isT = true := by simp [isT]
          rw [e1, e2]
          exact ⟨rfl, q⟩
      rcases hm with rfl | rfl
      · unfold t_law_like
        walk_at "dv"
        exact ⟨⟨by omega, by omega⟩, body _ rfl⟩
      · unfold t_law_like
        walk_at "dv"
        exact ⟨⟨by omega, by omega⟩, body _ rfl⟩
    cases d with
    | non => exact leaf rfl rfl (by simp [D.eqb]) rfl rfl rfl
    | bl b => exact leaf rfl rfl (by simp [D.eqb]) rfl rfl rfl
    | int i => exact leaf rfl rfl (by simp [D.eqb]) rfl rfl rfl
    | str x =>
      refine leaf rfl ?_ (by simp [D.eqb]) rfl rfl rfl
      have : PyData.strOk x = true := h
      simp [D.lay, D.flatOk, SeqAt.shaped, D.toP, PyData.canLay0, PyData.depth, this]
    | tup ds => exact seq ds h.1 h.2 .tup (.inl rfl)
    | lst ds => exact seq ds h.1 h.2 .lst (.inr rfl)
    | dic _ => exact h.elim
    | bag => exact h.elim
    | scr => exact h.elim
theorem mul_pos_iff' {g k : Int} (hg : 0 < g) : (0 < g * k ↔ 0 < k) ∧ (g * k < 0 ↔ k < 0) := by
  have h1 : 0 < k → 0 < g * k := fun h => Int.mul_pos hg h
  have h2 : k < 0 → g * k < 0 := fun h => Int.mul_neg_of_pos_of_neg hg h
  have h3 : k = 0 → g * k = 0 := fun h => by rw [h, Int.mul_zero]
  omega
/-! ### spots and turns -/
theorem rng_len {lo : Int} {n : Nat} : (rngD lo n).length = n := by simp [rngD]
def SpotOk (d : D) : Prop := ∃ x y : Int, d = .tup [.int x, .int y] ∧ -40 ≤ x ∧ x ≤ 40 ∧ -40 ≤ y ∧ y ≤ 40
@[irreducible] def crs (ax ay bx b_y cx cy : Int) : Int := (bx - ax) * (cy - ay) - (b_y - ay) * (cx - ax)
@[irreducible] def sgn (i : Int) : Int := (if 0 < i then 1 else 0) - (if i < 0 then 1 else 0)
@[irreducible] def turn (ax ay bx b_y cx cy : Int) : Int := sgn (crs ax ay bx b_y cx cy)
theorem cross_ok {Q : D → Prop} {ax ay bx b_y cx cy : Int} (h1 : (bx - ax).natAbs < 1000000000) (h2 : (b_y - ay).natAbs < 1000000000) (h : Q (.int (crs ax ay bx b_y cx cy))) : c_cross [.tup [.int ax, .int ay], .tup [.int bx, .int b_y], .tup [.int cx, .int cy]] Q := by
  unfold c_cross
  walk_at "dv"
  unfold crs at h
  exact ⟨mulOk (by omega), mulOk (by omega), h⟩
theorem int_at {Q : D → Prop} {i j : Int} (h : Q (.int i)) (e : j = i) : Q (.int j) := e ▸ h
@[irreducible] def clp (i : Int) : Int := max (-40) (min 40 i)
theorem clp_b {i : Int} : -40 ≤ clp i ∧ clp i ≤ 40 := by unfold clp; omega
theorem law_clipped_ok {Q : D → Prop} {i : Int} (h : Q (.int (clp i))) : c_law_clipped [.int i] Q := by
  unfold c_law_clipped
  walk_at "dv"
  exact int_at h (by unfold clp; rfl)
theorem law_spot_ok {Q : D → Prop} {x y r : Int} (h0 : 0 ≤ r) (h1 : r < 1000000) (h : ∀ d, SpotOk d → Q d) : c_law_spot [.bag, .tup [.int x, .int y], .int r] Q := by
  unfold c_law_spot
  walk_at "dv"
  refine ⟨mulOk (by omega), pull_ok (by omega) (by omega) fun p p0 p1 => ?_⟩
  walk_at "dv"
  refine law_clipped_ok ?_
  walk_at "dv"
  refine ⟨mulOk (by omega), pull_ok (by omega) (by omega) fun q q0 q1 => ?_⟩
  walk_at "dv"
  refine law_clipped_ok ?_
  walk_at "dv"
  exact h _ ⟨_, _, rfl, clp_b.1, clp_b.2, clp_b.1, clp_b.2⟩
theorem law_base_ok {Q : D → Prop} (h : ∀ d, SpotOk d → Q d) : c_law_base [.bag] Q := by
  unfold c_law_base
  walk_at "dv"
  refine pull_ok (by decide) (by decide) fun p p0 p1 => ?_
  walk_at "dv"
  refine pull_ok (by decide) (by decide) fun q q0 q1 => ?_
  walk_at "dv"
  refine law_of_ok (by simp) fun d hd => h d ?_
  simp only [List.mem_cons, List.not_mem_nil, or_false] at hd
  rcases hd with rfl | rfl | rfl | rfl | rfl | rfl | rfl <;> exact ⟨_, _, rfl, by omega, by omega, by omega, by omega⟩
local macro_rules | `(tactic| walk_at "beq") => `(tactic| (first | (rw [decide_eq_decide]; omega) | exact (decide_eq_false (by omega)).symm | exact (decide_eq_true (by omega)).symm))
/-! ### pairs in their order -/
@[irreducible] def mxx (i j k l : Int) : Int := if i < k ∨ (i = k ∧ j < l) then k else i
@[irreducible] def mxy (i j k l : Int) : Int := if i < k ∨ (i = k ∧ j < l) then l else j
@[irreducible] def mnx (i j k l : Int) : Int := if k < i ∨ (k = i ∧ l < j) then k else i
@[irreducible] def mny (i j k l : Int) : Int := if k < i ∨ (k = i ∧ l < j) then l else j
theorem max2A_c {i j k l : Int} {Q : D → Prop} : max2A [.tup [.int i, .int j], .tup [.int k, .int l]] Q = Q (.tup [.int (mxx i j k l), .int (mxy i j k l)]) := by
  rw [max2A_t2]
  unfold mxx mxy
  by_cases c : i < k ∨ (i = k ∧ j < l)
  · rw [if_pos c, if_pos c, if_pos c]
  · rw [if_neg c, if_neg c, if_neg c]
theorem min2A_c {i j k l : Int} {Q : D → Prop} : min2A [.tup [.int i, .int j], .tup [.int k, .int l]] Q = Q (.tup [.int (mnx i j k l), .int (mny i j k l)]) := by
  rw [min2A_t2]
  unfold mnx mny
  by_cases c : k < i ∨ (k = i ∧ l < j)
  · rw [if_pos c, if_pos c, if_pos c]
  · rw [if_neg c, if_neg c, if_neg c]
theorem mxx_c {i j k l : Int} : mxx k l i j = mxx i j k l := by
  unfold mxx
  repeat' split
  all_goals omega
theorem mxy_c {i j k l : Int} : mxy k l i j = mxy i j k l := by
  unfold mxy
  repeat' split
  all_goals omega
theorem mnx_c {i j k l : Int} : mnx k l i j = mnx i j k l := by
  unfold mnx
  repeat' split
  all_goals omega
theorem mny_c {i j k l : Int} : mny k l i j = mny i j k l := by
  unfold mny
  repeat' split
  all_goals omega
theorem slh4 {a b c d : D} {Q : D → Prop} : slD (.tup [a, b, c, d]) none (some 2) Q = Q (.tup [a, b]) := by
  rw [slD_t]
  exact propext ⟨fun h => h.2, fun h => ⟨by simp only [List.length_cons, List.length_nil]; decide, h⟩⟩
theorem slt4' {a b c d : D} {Q : D → Prop} : slD (.tup [a, b, c, d]) (some 2) none Q = Q (.tup [c, d]) := by
  rw [slD_t]
  exact propext ⟨fun h => h.2, fun h => ⟨by simp only [List.length_cons, List.length_nil]; decide, h⟩⟩
end DV

namespace DV
open PySem PySem.Spec PyProof.Rows L2
local macro_rules | `(tactic| walk_at "dv") => `(tactic| simp (config := { failIfUnchanged := false, implicitDefEqProofs := false }) only [↓k_for_q, ↓e_for_n, ↓e_for_c, ↓k_sAppend1_q, ↓k_sAppend_q, ↓k_sRetOwn_q, ↓k_sPar2_q, ↓k_sPar_q, ↓k_sPar33_q, ↓k_sPar3_q, ↓k_some_q, ↓k_asI_q, ↓k_asS_q, ↓k_rng1_q, ↓k_one_q, ↓k_rng22_q, ↓k_rng21_q, ↓k_rng2_q, ↓k_two_q, ↓k_non_q, ↓k_no_q, ↓k_sSet_q, ↓k_sAsg_q, ↓k_sAsg2_q, ↓k_sIf_q, ↓k_sDrop_q, ↓k_sOwn_q, ↓k_sFor_q, ↓k_gs_q, ↓k_dOp2_q, ↓k_dOp_q, ↓k_dCh4_q, ↓k_dCh3_q, ↓k_dCh2_q, ↓k_dCh1_q, ↓k_dUn_q, ↓k_dTest_q, ↓k_dAnd_q, ↓k_dOr_q, ↓k_dNot_q, ↓k_dAndV_q, ↓k_dOrV_q, ↓k_dIf_q, ↓k_dCons2_q, ↓k_dCons_q, ↓k_dTup_q, ↓k_dLst_q, ↓k_dCall_q, ↓k_dIsi_q, ↓k_dIsi2_q, ↓k_dSl3_q, ↓k_dSl2_q, ↓k_dSl_q, ↓k_dRev_q, ↓k_dLc_q, ↓k_dB_q, ↓chB_b, ↓tsB_b, ↓dVar_s, ↓ownL_o, ↓ownD_o, ↓roL_l, ↓e_sAppend, ↓e_sRetOwn, ↓two_2, ↓three_3, ↓e_sPar, ↓e_sPar3, ↓asI_i, ↓e_dPart, ↓asS_l, ↓asS_t, ↓e_iSeq, ↓one_1, ↓e_iRng1D, ↓e_iRng2D, ↓wipeD_n, ↓wipeD_c, ↓frz_0, ↓frz_0v, ↓frz_s, ↓e_fnD, ↓e_sSeq, ↓e_sNext, ↓e_sBreak, ↓e_sCont, ↓e_sSet, ↓e_sAsg, ↓e_sAsg2, ↓e_sIf, ↓e_sRet, ↓e_sRetN, ↓e_sDrop, ↓e_sNever, ↓e_sOwn, ↓e_sFrz, ↓e_sFor, ↓e_gN, ↓e_gT_t, ↓e_gsNil_n, ↓e_gsCons_c, ↓e_dVar_0, ↓e_dVar_0t, ↓e_dC, ↓e_dOp, ↓e_dChain, ↓e_dUn, ↓e_dTest, ↓e_dAnd, ↓e_dOr, ↓e_dNot, ↓e_dAndV, ↓e_dOrV, ↓e_dIf, ↓e_dNil, ↓e_dCons, ↓e_dTup, ↓e_dLst, ↓e_dCall, ↓e_dB, ↓e_dIsi, ↓e_dIsi2, ↓e_dSl, ↓e_dRev, ↓e_dNo, ↓e_dYes, ↓e_dLc,
  ↓addD_ii, ↓addD_tt, ↓addD_ll, ↓subD_ii, ↓mulD_ii, ↓fdivD_ii, ↓modD_ii, ↓powD_10_9, ↓powD_10_6, ↓ltA_ii, ↓leA_ii, ↓gtA_ii, ↓geA_ii, ↓ltA_t2, ↓leA_t2, ↓gtA_t2, ↓geA_t2, ↓max2A_ii, ↓min2A_ii, ↓slh4, ↓slt4', ↓max2A_c, ↓min2A_c, ↓revD_l, ↓isNon_n, ↓isNon_t, ↓isNon_l, ↓notNon_n, ↓notNon_t, ↓isBD_bb, ↓negD_i, ↓notD_b, ↓absD_i, ↓intC_i, ↓intC_b, ↓lenD_l, ↓lenD_t, ↓listD_l, ↓listD_t, ↓tupleD_l, ↓tupleD_t, ↓allD_l, ↓anyD_l, ↓ixT0, ↓ixT1, ↓ixT2, ↓ixT3, ↓ixL0, ↓ixL1, ↓ixL2, ↓ixL3, ↓slD_l,
  eqD, neD, notInD, sl0, sl1, sl2, sl3, sl4, sl5, sl6, sl7, sl8, sl9, sl10, sl11, sl12, slt0, slt1, slt2, slt3, slt4, slt5, slt6, slt7, slt8, slt9, slt10, slt11, slt12, lay_i, lay_b, lay_n, lay_t0, lay_l0, lay_t2, lay_t4, eqb_ii, eqb_bb, eqb_ss, eqb_nn, eqb_tt, eqb_ll, eqbs_nn, eqbs_cc, eqbs_nc, eqbs_cn, tyOk_n, tyOk_b, tyOk_i, tyOk_s, tyOk_t, tyOk_l, isi_n, isi_b, isi_i, isi_s, isi_t, isi_l,
  List.map_cons, List.map_nil, List.cons_append, List.nil_append, List.append_nil, List.append_assoc, List.length_cons, List.length_nil, List.getElem?_cons_zero, List.getElem?_cons_succ, List.set_cons_zero, List.set_cons_succ, List.replicate, Nat.reduceAdd, Nat.reduceSub, Nat.zero_add, Nat.reduceLeDiff, Nat.reduceEqDiff,
  if_true, if_false, true_and, and_true, and_self, Bool.not_true, Bool.not_false, Bool.false_eq_true, Bool.and_true, Bool.true_and, Bool.or_false, Bool.false_or, Bool.or_true, Bool.true_or, decide_eq_true_eq, decide_true, decide_false, beq_self_eq_true, beq_iff_eq, String.reduceEq, reduceIte, reduceCtorEq])

/-! ### what may be compared -/
def LayN : Nat → D → Prop
  | 0, d => match d with
    | .non => True
    | .bl _ => True
    | .int _ => True
    | .str x => PyData.strOk x = true
    | _ => False
  | n + 1, d => match d with
    | .non => True
    | .bl _ => True
    | .int _ => True
    | .str x => PyData.strOk x = true
    | .tup ds => ∀ d ∈ ds, LayN n d
    | .lst ds => ∀ d ∈ ds, LayN n d
    | _ => False
def LayOk (n : Nat) (d : D) : Prop := d.flatOk = true ∧ d.toP.canLay0 = true ∧ d.toP.depth ≤ n
def LayOks (n : Nat) (ds : List D) : Prop := D.flatOks ds = true ∧ PyData.canLayAll0 (D.toPs ds) = true ∧ PyData.depthAll (D.toPs ds) ≤ n
theorem layOks {n : Nat} : ∀ {ds : List D}, (∀ d ∈ ds, LayOk n d) → LayOks n ds
  | [], _ => by refine ⟨?_, ?_, ?_⟩ <;> simp [D.flatOks, D.toPs, PyData.canLayAll0, PyData.depthAll]
  | d :: ds, h => by
    obtain ⟨a1, a2, a3⟩ := h d List.mem_cons_self
    obtain ⟨b1, b2, b3⟩ := layOks (ds := ds) fun d hd => h d (List.mem_cons_of_mem _ hd)
    refine ⟨?_, ?_, ?_⟩
    · simp [D.flatOks, a1, b1]
    · simp [D.toPs, PyData.canLayAll0, a2, b2]
    · simp only [D.toPs, PyData.depthAll]
      omega
theorem layOk_of : ∀ (n : Nat) (d : D), LayN n d → LayOk (n + 1) d
  | 0, d, h => by
    cases d <;> first | exact h.elim | (refine ⟨?_, ?_, ?_⟩ <;> simp [D.flatOk, D.toP, PyData.canLay0, PyData.depth] <;> exact h)
  | n + 1, d, h => by
    cases d with
    | tup ds =>
      obtain ⟨b1, b2, b3⟩ := layOks (n := n + 1) (ds := ds) fun d hd => layOk_of n d (h d hd)
      refine ⟨by simp only [D.flatOk, b1], by simp only [D.toP, PyData.canLay0, b2], ?_⟩
      simp only [D.toP, PyData.depth]
      omega
    | lst ds =>
      obtain ⟨b1, b2, b3⟩ := layOks (n := n + 1) (ds := ds) fun d hd => layOk_of n d (h d hd)
      refine ⟨by simp only [D.flatOk, b1], by simp only [D.toP, PyData.canLay0, b2], ?_⟩
      simp only [D.toP, PyData.depth]
      omega
    | dic => exact h.elim
    | bag => exact h.elim
    | scr => exact h.elim
    | non => refine ⟨?_, ?_, ?_⟩ <;> simp [D.flatOk, D.toP, PyData.canLay0, PyData.depth]
    | bl => refine ⟨?_, ?_, ?_⟩ <;> simp [D.flatOk, D.toP, PyData.canLay0, PyData.depth]
    | int => refine ⟨?_, ?_, ?_⟩ <;> simp [D.flatOk, D.toP, PyData.canLay0, PyData.depth]
    | str x => exact ⟨by simp [D.flatOk], by
      have h' : PyData.strOk x = true := h
      simpa [D.toP, PyData.canLay0] using h', by simp [D.toP, PyData.depth]⟩
theorem lay_of {n : Nat} {d : D} (hn : n ≤ 60) (h : LayN n d) : d.lay = true := by
  obtain ⟨h1, h2, h3⟩ := layOk_of n d h
  simp only [D.lay, SeqAt.shaped, h1, h2, Bool.true_and, decide_eq_true_eq]
  omega
/-! ### fractions in lowest terms -/
theorem fdiv_l {g p : Int} (hg : g ≠ 0) : (g * p).fdiv g = p := Int.mul_fdiv_cancel_left p hg
theorem fdiv_ln {g p : Int} (hg : g ≠ 0) : (g * p).fdiv (-g) = -p := by
  rw [show g * p = (-g) * (-p) by rw [Int.neg_mul_neg]]
  exact Int.mul_fdiv_cancel_left _ (by omega)
theorem lowD_spec {o u : Int} (hu : u ≠ 0) : ∃ n v : Int, lowD o u = .tup [.int n, .int v] ∧ 0 < v ∧ n * u = o * v ∧ n.natAbs ≤ o.natAbs ∧ v.natAbs ≤ u.natAbs ∧ Int.gcd n v = 1 := by
  have hg := gcd_small (o := o) hu
  unfold lowD
  obtain ⟨p, hp⟩ : ((Int.gcd o u : Nat) : Int) ∣ o := Int.gcd_dvd_left ..
  obtain ⟨q, hq⟩ : ((Int.gcd o u : Nat) : Int) ∣ u := Int.gcd_dvd_right ..
  have hc : Int.gcd p q = 1 := by
    have h1 : Int.gcd o u = Int.gcd ((Int.gcd o u : Nat) * p) ((Int.gcd o u : Nat) * q) := by rw [← hp, ← hq]
    rw [Int.gcd_mul_left, Int.natAbs_natCast] at h1
    exact Nat.eq_of_mul_eq_mul_left hg.1 (by omega)
  generalize Int.gcd o u = g at hp hq hg
  have g0 : (g : Int) ≠ 0 := by omega
  have b1 : p.natAbs ≤ o.natAbs := by rw [hp, Int.natAbs_mul]; exact Nat.le_mul_of_pos_left _ (by omega)
  have b2 : q.natAbs ≤ u.natAbs := by rw [hq, Int.natAbs_mul]; exact Nat.le_mul_of_pos_left _ (by omega)
  by_cases hn : u < 0
  · rw [if_pos hn]
    refine ⟨-p, -q, ?_, ?_, ?_, by omega, by omega, by rw [Int.neg_gcd, Int.gcd_neg]; exact hc⟩
    · rw [show o.fdiv (-(g : Int)) = -p by rw [hp]; exact fdiv_ln g0, show u.fdiv (-(g : Int)) = -q by rw [hq]; exact fdiv_ln g0]
    · have := (mul_pos_iff' (g := (g : Int)) (k := q) (by omega)).2
      rw [← hq] at this
      have := this.mp hn
      omega
    · rw [hp, hq]; grind
  · rw [if_neg hn]
    refine ⟨p, q, ?_, ?_, ?_, by omega, by omega, hc⟩
    · rw [show o.fdiv (g : Int) = p by rw [hp]; exact fdiv_l g0, show u.fdiv (g : Int) = q by rw [hq]; exact fdiv_l g0]
    · have := (mul_pos_iff' (g := (g : Int)) (k := q) (by omega)).1
      rw [← hq] at this
      exact this.mp (by omega)
    · rw [hp, hq]; grind
theorem cop_eq {n v m w : Int} (hv : 0 < v) (hw : 0 < w) (h1 : Int.gcd n v = 1) (h2 : Int.gcd m w = 1) (e : n * w = m * v) : n = m ∧ v = w := by
  have a1 : v.natAbs ∣ w.natAbs := by
    refine Nat.Coprime.dvd_of_dvd_mul_right (n := n.natAbs) ?_ ?_
    · rw [Nat.Coprime, Nat.gcd_comm]; exact h1
    · rw [← Int.natAbs_mul, Int.mul_comm, e, Int.natAbs_mul]; exact Nat.dvd_mul_left _ _
  have a2 : w.natAbs ∣ v.natAbs := by
    refine Nat.Coprime.dvd_of_dvd_mul_right (n := m.natAbs) ?_ ?_
    · rw [Nat.Coprime, Nat.gcd_comm]; exact h2
    · rw [← Int.natAbs_mul, Int.mul_comm, ← e, Int.natAbs_mul]; exact Nat.dvd_mul_left _ _
  have a3 := Nat.dvd_antisymm a1 a2
  have hvw : v = w := by omega
  refine ⟨?_, hvw⟩
  rw [hvw] at e
  exact Int.eq_of_mul_eq_mul_right (by omega) e
theorem lowD_eq {o u o' u' : Int} (hu : u ≠ 0) (hu' : u' ≠ 0) (e : o * u' = o' * u) : lowD o u = lowD o' u' := by
  obtain ⟨n, v, e1, v0, r1, -, -, c1⟩ := lowD_spec (o := o) hu
  obtain ⟨m, w, e2, w0, r2, -, -, c2⟩ := lowD_spec (o := o') hu'
  rw [e1, e2]
  have k : n * w = m * v := by
    refine Int.eq_of_mul_eq_mul_right (a := u * u') (Int.mul_ne_zero hu hu') ?_
    grind
  obtain ⟨rfl, rfl⟩ := cop_eq v0 w0 c1 c2 k
  rfl
/-! ### where strokes meet -/
def comD (a b c d : Int) : D := if c < a ∨ (c = a ∧ d < b) then .non else if a = c ∧ b = d then .tup [.str (Str.ofString "at"), .tup [.tup [.int a, .int 1], .tup [.int b, .int 1]]] else .tup [.str (Str.ofString "along"), .tup [.int a, .int b], .tup [.int c, .int d]]
def commonD (a b c d e f g h : Int) : D := comD (mxx (mnx a b c d) (mny a b c d) (mnx e f g h) (mny e f g h)) (mxy (mnx a b c d) (mny a b c d) (mnx e f g h) (mny e f g h)) (mnx (mxx a b c d) (mxy a b c d) (mxx e f g h) (mxy e f g h)) (mny (mxx a b c d) (mxy a b c d) (mxx e f g h) (mxy e f g h))
theorem common_ok {Q : D → Prop} {a b c d e f g h : Int} (hq : Q (commonD a b c d e f g h)) : c_common [.tup [.int a, .int b, .int c, .int d], .tup [.int e, .int f, .int g, .int h]] Q := by
  unfold c_common
  walk_at "dv"
  unfold commonD comD at hq
  split
  · rename_i c1
    rw [if_pos c1] at hq
    exact hq
  · rename_i c1
    rw [if_neg c1] at hq
    simp only [Bool.and_eq_true, beq_iff_eq]
    split
    · rename_i c2
      rw [if_pos c2] at hq
      exact hq
    · rename_i c2
      rw [if_neg c2] at hq
      exact hq
theorem commonD_c {a b c d e f g h : Int} : commonD e f g h a b c d = commonD a b c d e f g h := by
  unfold commonD
  rw [mxx_c (i := mnx a b c d), mxy_c (i := mnx a b c d), mnx_c (i := mxx a b c d), mny_c (i := mxx a b c d)]
@[irreducible] def wh (a b c d e f g h : Int) : Int := (c - a) * (h - f) - (d - b) * (g - e)
@[irreducible] def c0 (a b c d e f : Int) : Int := (c - a) * (f - b) - (d - b) * (e - a)
@[irreducible] def e0 (a b e f g h : Int) : Int := (e - a) * (h - f) - (f - b) * (g - e)
def meetD (a b c d e f g h : Int) : D := if wh a b c d e f g h = 0 then (if c0 a b c d e f = 0 then commonD a b c d e f g h else .non) else
  if 0 < c0 a b c d e f * (c0 a b c d e f + wh a b c d e f g h) ∨ 0 < e0 a b e f g h * (e0 a b e f g h - wh a b c d e f g h) then .non else
  .tup [.str (Str.ofString "at"), .tup [lowD (a * wh a b c d e f g h + e0 a b e f g h * (c - a)) (wh a b c d e f g h), lowD (b * wh a b c d e f g h + e0 a b e f g h * (d - b)) (wh a b c d e f g h)]]
theorem wh_c {a b c d e f g h : Int} : wh e f g h a b c d = -wh a b c d e f g h := by unfold wh; grind
theorem c0_c {a b e f g h : Int} : c0 e f g h a b = e0 a b e f g h := by unfold c0 e0; grind
theorem e0_c {a b c d e f : Int} : e0 e f a b c d = c0 a b c d e f := by unfold c0 e0; grind
theorem c0_r {a b c d e f : Int} : c0 c d a b e f = -c0 a b c d e f := by unfold c0; grind
theorem ec_x {a b c d e f g h : Int} : (e - a) * wh a b c d e f g h = e0 a b e f g h * (c - a) + c0 a b c d e f * (g - e) := by unfold e0 wh c0; grind
theorem ec_y {a b c d e f g h : Int} : (f - b) * wh a b c d e f g h = e0 a b e f g h * (d - b) + c0 a b c d e f * (h - f) := by unfold e0 wh c0; grind
theorem meetD_c {a b c d e f g h : Int} (n1 : ¬(c = a ∧ d = b)) (n2 : ¬(g = e ∧ h = f)) : meetD e f g h a b c d = meetD a b c d e f g h := by
  unfold meetD
  have ex := ec_x (a := a) (b := b) (c := c) (d := d) (e := e) (f := f) (g := g) (h := h)
  have ey := ec_y (a := a) (b := b) (c := c) (d := d) (e := e) (f := f) (g := g) (h := h)
  rw [wh_c, show c0 e f g h a b = e0 a b e f g h from c0_c, show e0 e f a b c d = c0 a b c d e f from e0_c, commonD_c]
  generalize hw : wh a b c d e f g h = W at *
  generalize hc : c0 a b c d e f = C at *
  generalize he : e0 a b e f g h = E at *
  by_cases w0 : W = 0
  · rw [w0] at ex ey ⊢
    rw [if_pos (by decide), if_pos rfl]
    by_cases k0 : C = 0
    · rw [k0] at ex ey
      have z : E = 0 := by
        by_cases q : c = a
        · have q2 : d - b ≠ 0 := by omega
          have : E * (d - b) = 0 := by omega
          exact (Int.mul_eq_zero.mp this).resolve_right q2
        · have : E * (c - a) = 0 := by omega
          exact (Int.mul_eq_zero.mp this).resolve_right (by omega)
      rw [z, k0]
    · have z : E ≠ 0 := by
        intro z
        rw [z] at ex ey
        by_cases q : g = e
        · have q2 : h - f ≠ 0 := by omega
          have : C * (h - f) = 0 := by omega
          exact k0 ((Int.mul_eq_zero.mp this).resolve_right q2)
        · have : C * (g - e) = 0 := by omega
          exact k0 ((Int.mul_eq_zero.mp this).resolve_right (by omega))
      rw [if_neg z, if_neg k0]
  · rw [if_neg (show ¬(-W = 0) by omega), if_neg w0, show E + -W = E - W by omega, show C - -W = C + W by omega]
    by_cases q : 0 < C * (C + W) ∨ 0 < E * (E - W)
    · rw [if_pos q, if_pos q.symm]
    · rw [if_neg q, if_neg (fun z => q z.symm)]
      rw [lowD_eq (o := e * -W + C * (g - e)) (u := -W) (o' := a * W + E * (c - a)) (u' := W) (by omega) w0 (by grind), lowD_eq (o := f * -W + C * (h - f)) (u := -W) (o' := b * W + E * (d - b)) (u' := W) (by omega) w0 (by grind)]
theorem prod_b {i j : Int} {m n : Nat} (h1 : i.natAbs ≤ m) (h2 : j.natAbs ≤ n) : (i * j).natAbs ≤ m * n := by
  rw [Int.natAbs_mul]
  exact Nat.mul_le_mul h1 h2
theorem plus_ok {Q : D → Prop} {a b c d : Int} (h1 : b.natAbs < 1000000000) (h2 : d.natAbs < 1000000000) (hb : b ≠ 0) (hd : d ≠ 0) (hq : Q (lowD (a * d + c * b) (b * d))) : c_plus [.tup [.int a, .int b], .tup [.int c, .int d]] Q := by
  unfold c_plus
  walk_at "dv"
  have := prod_b (i := b) (j := d) (m := 1000000000) (n := 1000000000) (by omega) (by omega)
  exact ⟨mulOk (by omega), mulOk (by omega), mulOk (by omega), lowest_ok (Int.mul_ne_zero hb hd) (by omega) hq⟩
theorem below_ok {Q : D → Prop} {a b c d : Int} (h1 : b.natAbs < 1000000000) (h2 : d.natAbs < 1000000000) (hq : Q (.bl (decide (a * d < c * b)))) : c_below [.tup [.int a, .int b], .tup [.int c, .int d]] Q := by
  unfold c_below
  walk_at "dv"
  exact ⟨mulOk (by omega), mulOk (by omega), hq⟩
theorem pos_of_mul' {a b : Int} (h : 0 < a * b) (hb : 0 < b) : 0 < a := by
  rcases Int.lt_or_le 0 a with h1 | h1
  · exact h1
  · have := Int.mul_nonneg (show 0 ≤ -a by omega) (show 0 ≤ b by omega)
    rw [Int.neg_mul] at this
    omega
theorem frac_out {n v E W : Int} (v0 : 0 < v) (w0 : W ≠ 0) (r : n * W = E * v) : (n < 0 ∨ v < n) ↔ 0 < E * (E - W) := by
  have k : E * (E - W) * (v * v) = W * W * (n * (n - v)) := by grind
  have vv : 0 < v * v := Int.mul_pos v0 v0
  have ww : 0 < W * W := by
    rcases Int.lt_or_gt_of_ne w0 with h | h
    · exact Int.mul_pos_of_neg_of_neg h h
    · exact Int.mul_pos h h
  constructor
  · intro h
    have p : 0 < n * (n - v) := by
      rcases h with h | h
      · exact Int.mul_pos_of_neg_of_neg h (by omega)
      · exact Int.mul_pos (by omega) (by omega)
    have q : 0 < E * (E - W) * (v * v) := by rw [k]; exact Int.mul_pos ww p
    exact pos_of_mul' q vv
  · intro h
    have q : 0 < W * W * (n * (n - v)) := by rw [← k]; exact Int.mul_pos h vv
    rw [Int.mul_comm] at q
    have p := pos_of_mul' q ww
    rcases Int.lt_or_le n 0 with h1 | h1
    · exact .inl h1
    · rcases Int.lt_or_le v n with h2 | h2
      · exact .inr h2
      · have := Int.mul_nonneg h1 (show 0 ≤ v - n by omega)
        have e : n * (n - v) = -(n * (v - n)) := by grind
        omega
theorem frac_sum {a n v n2 v2 dx E W : Int} (v0 : 0 < v) (r : n * W = E * v) (r2 : n2 * v = n * dx * v2) : (a * v2 + n2 * 1) * W = (a * W + E * dx) * (1 * v2) := by
  have k : n2 * W = E * dx * v2 := by
    refine Int.eq_of_mul_eq_mul_right (a := v) (by omega) ?_
    grind
  grind
def In100 (i : Int) : Prop := -100 ≤ i ∧ i ≤ 100
theorem meet_ok {Q : D → Prop} {a b c d e f g h : Int} (ha : In100 a) (hb : In100 b) (hc : In100 c) (hd : In100 d) (he : In100 e) (hf : In100 f) (hg : In100 g) (hh : In100 h) (hq : Q (meetD a b c d e f g h)) : c_meet [.tup [.int a, .int b, .int c, .int d], .tup [.int e, .int f, .int g, .int h]] Q := by
  unfold In100 at *
  unfold c_meet
  walk_at "dv"
  refine ⟨mulOk (by omega), mulOk (by omega), ?_⟩
  have hW : (c - a) * (h - f) - (d - b) * (g - e) = wh a b c d e f g h := by unfold wh; rfl
  have hE : (e - a) * (h - f) - (f - b) * (g - e) = e0 a b e f g h := by unfold e0; rfl
  have hC : (e - a) * (d - b) - (f - b) * (c - a) = -c0 a b c d e f := by unfold c0; grind
  have bW : (wh a b c d e f g h).natAbs ≤ 80000 := by
    rw [← hW]
    have := prod_b (i := c - a) (j := h - f) (m := 200) (n := 200) (by omega) (by omega)
    have := prod_b (i := d - b) (j := g - e) (m := 200) (n := 200) (by omega) (by omega)
    omega
  have bE : (e0 a b e f g h).natAbs ≤ 80000 := by
    rw [← hE]
    have := prod_b (i := e - a) (j := h - f) (m := 200) (n := 200) (by omega) (by omega)
    have := prod_b (i := f - b) (j := g - e) (m := 200) (n := 200) (by omega) (by omega)
    omega
  rw [hW, hC, hE]
  unfold meetD at hq
  generalize wh a b c d e f g h = W at *
  generalize c0 a b c d e f = C at *
  generalize e0 a b e f g h = E at *
  by_cases w0 : W = 0
  · rw [if_pos w0] at hq ⊢
    refine ⟨mulOk (by omega), mulOk (by omega), ?_⟩
    by_cases k0 : C = 0
    · rw [if_pos k0] at hq
      rw [if_pos (by omega)]
      exact common_ok hq
    · rw [if_neg k0] at hq
      rw [if_neg (by omega)]
      exact hq
  · rw [if_neg w0] at hq ⊢
    refine ⟨mulOk (by omega), mulOk (by omega), lowest_ok w0 (by omega) ?_⟩
    obtain ⟨n, v, e1, v0, r1, s1, s2, -⟩ := lowD_spec (o := E) w0
    rw [e1]
    walk_at "dv"
    rw [hC]
    refine ⟨mulOk (by omega), mulOk (by omega), lowest_ok w0 (by omega) ?_⟩
    obtain ⟨m, w, e2, u0, r2, s3, s4, -⟩ := lowD_spec (o := -C) w0
    rw [e2]
    have p1 := frac_out v0 w0 r1
    have p2 := frac_out u0 w0 r2
    rw [show -C * (-C - W) = C * (C + W) by grind] at p2
    walk_at "dv"
    refine below_ok (by omega) (by omega) ?_
    walk_at "dv"
    split
    · rw [if_pos (.inr (p1.mp (by omega)))] at hq
      exact hq
    refine below_ok (by omega) (by omega) ?_
    walk_at "dv"
    split
    · rw [if_pos (.inr (p1.mp (by omega)))] at hq
      exact hq
    refine below_ok (by omega) (by omega) ?_
    walk_at "dv"
    split
    · rw [if_pos (.inl (p2.mp (by omega)))] at hq
      exact hq
    refine below_ok (by omega) (by omega) ?_
    walk_at "dv"
    split
    · rw [if_pos (.inl (p2.mp (by omega)))] at hq
      exact hq
    rw [if_neg (fun z => z.elim (fun z => by have := p2.mpr z; omega) (fun z => by have := p1.mpr z; omega))] at hq
    have b1 := prod_b (i := n) (j := c - a) (m := 80000) (n := 200) (by omega) (by omega)
    have b2 := prod_b (i := n) (j := d - b) (m := 80000) (n := 200) (by omega) (by omega)
    refine ⟨mulOk (by omega), lowest_ok (by omega) (by omega) ?_⟩
    obtain ⟨n2, v2, e3, v20, r3, s5, s6, -⟩ := lowD_spec (o := n * (c - a)) (u := v) (by omega)
    rw [e3]
    walk_at "dv"
    refine plus_ok (by decide) (by omega) (by decide) (by omega) ?_
    rw [lowD_eq (o' := a * W + E * (c - a)) (u' := W) (by omega) w0 (frac_sum v0 r1 r3)]
    walk_at "dv"
    refine ⟨mulOk (by omega), lowest_ok (by omega) (by omega) ?_⟩
    obtain ⟨n3, v3, e4, v30, r4, s7, s8, -⟩ := lowD_spec (o := n * (d - b)) (u := v) (by omega)
    rw [e4]
    walk_at "dv"
    refine plus_ok (by decide) (by omega) (by decide) (by omega) ?_
    rw [lowD_eq (o' := b * W + E * (d - b)) (u' := W) (by omega) w0 (frac_sum v0 r1 r4)]
    walk_at "dv"
    exact hq
theorem and_mul {i j : Int} {P : Prop} (h : (-18446744073709551616 < i ∧ i < 18446744073709551616) ∨ (-18446744073709551616 < j ∧ j < 18446744073709551616)) (p : P) : MulOk i j ∧ P := ⟨mulOk h, p⟩
theorem crs_c0 {a b c d e f : Int} : crs a b c d e f = c0 a b c d e f := by unfold crs c0; rfl
theorem crs_c1 {a b c d e f g h : Int} : crs a b c d g h = c0 a b c d e f + wh a b c d e f g h := by unfold crs c0 wh; grind
theorem crs_e0 {a b e f g h : Int} : crs e f g h a b = e0 a b e f g h := by unfold crs e0; grind
theorem crs_e1 {a b c d e f g h : Int} : crs e f g h c d = e0 a b e f g h - wh a b c d e f g h := by unfold crs e0 wh; grind
theorem law_meet_ok {Q : D → Prop} {a b c d e f g h : Int} (ha : In100 a) (hb : In100 b) (hc : In100 c) (hd : In100 d) (he : In100 e) (hf : In100 f) (hg : In100 g) (hh : In100 h) (hq : Q (meetD a b c d e f g h)) : c_law_meet [.tup [.int a, .int b, .int c, .int d], .tup [.int e, .int f, .int g, .int h]] Q := by
  unfold In100 at *
  unfold c_law_meet
  walk_at "dv"
  refine cross_ok (by omega) (by omega) ?_
  walk_at "dv"
  refine cross_ok (by omega) (by omega) ?_
  walk_at "dv"
  refine cross_ok (by omega) (by omega) ?_
  walk_at "dv"
  refine cross_ok (by omega) (by omega) ?_
  walk_at "dv"
  refine ⟨by rfl, by rfl, ?_⟩
  have bC : (c0 a b c d e f).natAbs ≤ 80000 := by
    unfold c0
    have := prod_b (i := c - a) (j := f - b) (m := 200) (n := 200) (by omega) (by omega)
    have := prod_b (i := d - b) (j := e - a) (m := 200) (n := 200) (by omega) (by omega)
    omega
  have bW : (wh a b c d e f g h).natAbs ≤ 80000 := by
    unfold wh
    have := prod_b (i := c - a) (j := h - f) (m := 200) (n := 200) (by omega) (by omega)
    have := prod_b (i := d - b) (j := g - e) (m := 200) (n := 200) (by omega) (by omega)
    omega
  have bE : (e0 a b e f g h).natAbs ≤ 80000 := by
    unfold e0
    have := prod_b (i := e - a) (j := h - f) (m := 200) (n := 200) (by omega) (by omega)
    have := prod_b (i := f - b) (j := g - e) (m := 200) (n := 200) (by omega) (by omega)
    omega
  have ex := ec_x (a := a) (b := b) (c := c) (d := d) (e := e) (f := f) (g := g) (h := h)
  have ey := ec_y (a := a) (b := b) (c := c) (d := d) (e := e) (f := f) (g := g) (h := h)
  rw [show crs a b c d e f = c0 a b c d e f from crs_c0, show crs a b c d g h = c0 a b c d e f + wh a b c d e f g h from crs_c1, show crs e f g h a b = e0 a b e f g h from crs_e0, show crs e f g h c d = e0 a b e f g h - wh a b c d e f g h from crs_e1]
  unfold meetD at hq
  generalize wh a b c d e f g h = W at *
  generalize c0 a b c d e f = C at *
  generalize e0 a b e f g h = E at *
  simp only [Bool.and_eq_true, beq_iff_eq]
  by_cases w0 : W = 0
  · rw [if_pos w0] at hq
    by_cases k0 : C = 0
    · rw [if_pos k0] at hq
      rw [if_pos ⟨k0, by omega⟩]
      unfold commonD comD at hq
      generalize mxx (mnx a b c d) (mny a b c d) (mnx e f g h) (mny e f g h) = p at *
      generalize mxy (mnx a b c d) (mny a b c d) (mnx e f g h) (mny e f g h) = q at *
      generalize mnx (mxx a b c d) (mxy a b c d) (mxx e f g h) (mxy e f g h) = r at *
      generalize mny (mxx a b c d) (mxy a b c d) (mxx e f g h) (mxy e f g h) = t at *
      split
      · rw [if_neg (by omega), if_neg (by omega)] at hq
        exact hq
      · split
        · rw [if_neg (by omega), if_pos (by omega)] at hq
          exact hq
        · rw [if_pos (by omega)] at hq
          exact hq
    · rw [if_neg k0] at hq
      rw [if_neg (fun z => k0 z.1)]
      refine ⟨mulOk (by omega), ?_⟩
      have p : 0 < C * (C + W) := by
        rw [w0, Int.add_zero]
        rcases Int.lt_or_gt_of_ne k0 with h | h
        · exact Int.mul_pos_of_neg_of_neg h h
        · exact Int.mul_pos h h
      rw [if_pos p]
      exact hq
  · rw [if_neg w0] at hq
    rw [if_neg (by omega)]
    refine ⟨mulOk (by omega), ?_⟩
    split
    · rename_i p
      rw [if_pos (.inl p)] at hq
      exact hq
    rename_i p1
    refine ⟨mulOk (by omega), ?_⟩
    split
    · rename_i p
      rw [if_pos (.inr p)] at hq
      exact hq
    rename_i p2
    rw [if_neg (fun z => z.elim p1 p2)] at hq
    refine ⟨mulOk (by omega), mulOk (by omega), law_low_ok (by omega) (by omega) ?_⟩
    rw [lowD_eq (o' := a * W + E * (c - a)) (u' := W) (by omega) w0 (by grind)]
    walk_at "dv"
    refine ⟨mulOk (by omega), mulOk (by omega), law_low_ok (by omega) (by omega) ?_⟩
    rw [lowD_eq (o := f * (C - (C + W)) + (h - f) * C) (u := C - (C + W)) (o' := b * W + E * (d - b)) (u' := W) (by omega) w0 (by grind)]
    walk_at "dv"
    exact hq
def StrokeOk (d : D) : Prop := ∃ a b c e : Int, d = .tup [.int a, .int b, .int c, .int e] ∧ -40 ≤ a ∧ a ≤ 40 ∧ -40 ≤ b ∧ b ≤ 40 ∧ -40 ≤ c ∧ c ≤ 40 ∧ -40 ≤ e ∧ e ≤ 40 ∧ ¬(c = a ∧ e = b)
theorem StrokeOk.layN {d : D} (h : StrokeOk d) : LayN 1 d := by
  obtain ⟨a, b, c, e, rfl, -⟩ := h
  intro d hd
  simp only [List.mem_cons, List.not_mem_nil, or_false] at hd
  rcases hd with rfl | rfl | rfl | rfl <;> exact True.intro
theorem law_stroke_ok {Q : D → Prop} {x y r : Int} (h0 : 0 ≤ r) (h1 : r < 1000000) (h : ∀ d, StrokeOk d → Q d) : c_law_stroke [.bag, .tup [.int x, .int y], .int r] Q := by
  unfold c_law_stroke
  walk_at "dv"
  refine law_spot_ok h0 h1 fun d0 hd0 => ?_
  obtain ⟨a, b, rfl, a0, a1, b0, b1⟩ := hd0
  walk_at "dv"
  refine law_spot_ok h0 h1 fun d0 hd0 => ?_
  obtain ⟨c, d, rfl, c0, c1, d0, d1⟩ := hd0
  walk_at "dv"
  simp only [Bool.and_eq_true, beq_iff_eq]
  split
  · split
    · exact ⟨by simp, h _ ⟨_, _, _, _, rfl, by omega, by omega, by omega, by omega, by omega, by omega, by omega, by omega, by omega⟩⟩
    · exact ⟨by simp, h _ ⟨_, _, _, _, rfl, by omega, by omega, by omega, by omega, by omega, by omega, by omega, by omega, by omega⟩⟩
  · exact ⟨by simp, h _ ⟨_, _, _, _, rfl, by omega, by omega, by omega, by omega, by omega, by omega, by omega, by omega, by omega⟩⟩
theorem law_beside_ok {Q : D → Prop} {x y r : Int} {ss : List D} (h0 : 0 ≤ r) (h1 : r < 1000000) (hs : ss.length < 1000000) (hk : ∀ d ∈ ss, StrokeOk d) (h : ∀ d, StrokeOk d → Q d) : c_law_beside [.bag, .tup [.int x, .int y], .int r, .lst ss] Q := by
  unfold c_law_beside
  walk_at "dv"
  refine law_stroke_ok h0 h1 fun d0 hd0 => ?_
  have hd1 := hd0
  obtain ⟨a, b, c, d, rfl, a0, a1, b0, b1, c0, c1, d0, d1, nn⟩ := hd0
  walk_at "dv"
  refine pull_ok (by decide) (by decide) fun k k0 k1 => ?_
  walk_at "dv"
  refine ⟨lay_of (n := 2) (by decide) fun d hd => (hk d hd).layN, ?_⟩
  rcases ss with _ | ⟨s1, ss⟩
  · rw [eqbs_nn, if_pos rfl]
    exact h _ hd1
  rw [eqbs_cn, if_neg (by decide)]
  split
  · exact h _ hd1
  refine law_of_ok (by simp at hs; omega) fun e he => ?_
  have he1 := hk e he
  obtain ⟨p, q, r1, s, rfl, p0, p1, q0, q1, r0, r2, s0, s1, mm⟩ := he1
  walk_at "dv"
  simp only [Bool.not_eq_true', Bool.and_eq_false_imp, beq_iff_eq, beq_eq_false_iff_ne]
  repeat' (first | split | refine and_mul ?_ ?_)
  all_goals first
    | omega
    | exact h _ hd1
    | exact ⟨by simp, h _ ⟨_, _, _, _, rfl, by omega, by omega, by omega, by omega, by omega, by omega, by omega, by omega, by omega⟩⟩
theorem lk_int {n : Nat} {i : Int} : Lk (n + 1) (.int i) := True.intro
theorem lk_two {n : Nat} {a b : D} (ha : Lk n a) (hb : Lk n b) : Lk (n + 1) (.tup [a, b]) := ⟨by simp, fun d hd => by
  simp only [List.mem_cons, List.not_mem_nil, or_false] at hd
  rcases hd with rfl | rfl
  · exact ha
  · exact hb⟩
theorem lk_three {n : Nat} {a b c : D} (ha : Lk n a) (hb : Lk n b) (hc : Lk n c) : Lk (n + 1) (.tup [a, b, c]) := ⟨by simp, fun d hd => by
  simp only [List.mem_cons, List.not_mem_nil, or_false] at hd
  rcases hd with rfl | rfl | rfl
  · exact ha
  · exact hb
  · exact hc⟩
theorem in100 {i : Int} (h1 : -40 ≤ i) (h2 : i ≤ 40) : In100 i := ⟨by omega, by omega⟩
local macro_rules | `(tactic| walk_at "dw") => `(tactic| simp (config := { failIfUnchanged := false, implicitDefEqProofs := false }) only [↓k_for_q, ↓k_sAppend1_q, ↓k_sAppend_q, ↓k_sRetOwn_q, ↓k_sPar2_q, ↓k_sPar_q, ↓k_sPar33_q, ↓k_sPar3_q, ↓k_some_q, ↓k_asI_q, ↓k_asS_q, ↓k_rng1_q, ↓k_one_q, ↓k_rng22_q, ↓k_rng21_q, ↓k_rng2_q, ↓k_two_q, ↓k_non_q, ↓k_no_q, ↓k_sSet_q, ↓k_sAsg_q, ↓k_sAsg2_q, ↓k_sIf_q, ↓k_sDrop_q, ↓k_sOwn_q, ↓k_sFor_q, ↓k_gs_q, ↓k_dOp2_q, ↓k_dOp_q, ↓k_dCh4_q, ↓k_dCh3_q, ↓k_dCh2_q, ↓k_dCh1_q, ↓k_dUn_q, ↓k_dTest_q, ↓k_dAnd_q, ↓k_dOr_q, ↓k_dNot_q, ↓k_dAndV_q, ↓k_dOrV_q, ↓k_dIf_q, ↓k_dCons2_q, ↓k_dCons_q, ↓k_dTup_q, ↓k_dLst_q, ↓k_dCall_q, ↓k_dIsi_q, ↓k_dIsi2_q, ↓k_dSl3_q, ↓k_dSl2_q, ↓k_dSl_q, ↓k_dRev_q, ↓k_dLc_q, ↓k_dB_q, ↓chB_b, ↓tsB_b, ↓dVar_s, ↓ownL_o, ↓ownD_o, ↓roL_l, ↓e_sAppend, ↓e_sRetOwn, ↓two_2, ↓three_3, ↓e_sPar, ↓e_sPar3, ↓asI_i, ↓e_dPart, ↓asS_l, ↓asS_t, ↓e_iSeq, ↓one_1, ↓e_iRng1D, ↓e_iRng2D, ↓wipeD_n, ↓wipeD_c, ↓frz_0, ↓frz_0v, ↓frz_s, ↓e_fnD, ↓e_sSeq, ↓e_sNext, ↓e_sBreak, ↓e_sCont, ↓e_sSet, ↓e_sAsg, ↓e_sAsg2, ↓e_sIf, ↓e_sRet, ↓e_sRetN, ↓e_sDrop, ↓e_sNever, ↓e_sOwn, ↓e_sFrz, ↓e_sFor, ↓e_gN, ↓e_gT_t, ↓e_gsNil_n, ↓e_gsCons_c, ↓e_dVar_0, ↓e_dVar_0t, ↓e_dC, ↓e_dOp, ↓e_dChain, ↓e_dUn, ↓e_dTest, ↓e_dAnd, ↓e_dOr, ↓e_dNot, ↓e_dAndV, ↓e_dOrV, ↓e_dIf, ↓e_dNil, ↓e_dCons, ↓e_dTup, ↓e_dLst, ↓e_dCall, ↓e_dB, ↓e_dIsi, ↓e_dIsi2, ↓e_dSl, ↓e_dRev, ↓e_dNo, ↓e_dYes, ↓e_dLc,
  ↓addD_ii, ↓addD_tt, ↓addD_ll, ↓subD_ii, ↓mulD_ii, ↓fdivD_ii, ↓modD_ii, ↓powD_10_9, ↓powD_10_6, ↓ltA_ii, ↓leA_ii, ↓gtA_ii, ↓geA_ii, ↓ltA_t2, ↓leA_t2, ↓gtA_t2, ↓geA_t2, ↓max2A_ii, ↓min2A_ii, ↓slh4, ↓slt4', ↓max2A_c, ↓min2A_c, ↓revD_l, ↓isNon_n, ↓isNon_t, ↓isNon_l, ↓notNon_n, ↓notNon_t, ↓isBD_bb, ↓negD_i, ↓notD_b, ↓absD_i, ↓intC_i, ↓intC_b, ↓lenD_l, ↓lenD_t, ↓listD_l, ↓listD_t, ↓tupleD_l, ↓tupleD_t, ↓allD_l, ↓anyD_l, ↓ixT0, ↓ixT1, ↓ixT2, ↓ixT3, ↓ixL0, ↓ixL1, ↓ixL2, ↓ixL3, ↓slD_l,
  eqD, neD, notInD, sl0, sl1, sl2, sl3, sl4, sl5, sl6, sl7, sl8, sl9, sl10, sl11, sl12, slt0, slt1, slt2, slt3, slt4, slt5, slt6, slt7, slt8, slt9, slt10, slt11, slt12, lay_i, lay_b, lay_n, lay_t0, lay_l0, lay_t2, lay_t4, eqb_ii, eqb_bb, eqb_ss, eqb_nn, eqb_tt, eqb_ll, eqbs_nn, eqbs_cc, eqbs_nc, eqbs_cn, tyOk_n, tyOk_b, tyOk_i, tyOk_s, tyOk_t, tyOk_l, isi_n, isi_b, isi_i, isi_s, isi_t, isi_l,
  List.map_cons, List.map_nil, List.cons_append, List.nil_append, List.append_nil, List.append_assoc, List.length_cons, List.length_nil, List.getElem?_cons_zero, List.getElem?_cons_succ, List.set_cons_zero, List.set_cons_succ, List.replicate, Nat.reduceAdd, Nat.reduceSub, Nat.zero_add, Nat.reduceLeDiff, Nat.reduceEqDiff,
  if_true, if_false, true_and, and_true, and_self, Bool.not_true, Bool.not_false, Bool.false_eq_true, Bool.and_true, Bool.true_and, Bool.or_false, Bool.false_or, Bool.or_true, Bool.true_or, decide_eq_true_eq, decide_true, decide_false, beq_self_eq_true, beq_iff_eq, String.reduceEq, reduceIte, reduceCtorEq])
/-! ### a stroke goes through a square -/
def inX (x dx m p q : Int) : Prop := (2 * m - 1) * q ≤ 2 * x * q + 2 * dx * p ∧ 2 * x * q + 2 * dx * p < (2 * m + 1) * q
def GoesP (a b c d m n : Int) : Prop := ∃ p q : Int, 0 < q ∧ 0 ≤ p ∧ p ≤ q ∧ inX a (c - a) m p q ∧ inX b (d - b) n p q
def geL (n v : Int) (k : Bool) (p q : Int) : Prop := if k = true then n * q ≤ p * v else n * q < p * v
def leH (n v : Int) (k : Bool) (p q : Int) : Prop := if k = true then p * v ≤ n * q else p * v < n * q
theorem mul_le_iff {a b c : Int} (hc : 0 < c) : a * c ≤ b * c ↔ a ≤ b := ⟨fun h => Int.le_of_mul_le_mul_right h hc, fun h => Int.mul_le_mul_of_nonneg_right h (by omega)⟩
theorem mul_lt_iff {a b c : Int} (hc : 0 < c) : a * c < b * c ↔ a < b := ⟨fun h => Int.lt_of_mul_lt_mul_right h (by omega), fun h => Int.mul_lt_mul_of_pos_right h hc⟩
theorem frac_le {n v o u p q : Int} (v0 : 0 < v) (u0 : 0 < u) (r : n * u = o * v) : n * q ≤ p * v ↔ o * q ≤ p * u := by
  rw [← mul_le_iff (a := n * q) u0, ← mul_le_iff (a := o * q) v0, show n * q * u = o * q * v by grind, show p * v * u = p * u * v by grind]
theorem frac_ge {n v o u p q : Int} (v0 : 0 < v) (u0 : 0 < u) (r : n * u = o * v) : p * v ≤ n * q ↔ p * u ≤ o * q := by
  rw [← mul_le_iff (b := n * q) u0, ← mul_le_iff (b := o * q) v0, show n * q * u = o * q * v by grind, show p * v * u = p * u * v by grind]
theorem span_ok {Q : D → Prop} {x dx m : Int} (hx : In100 x) (hd : -200 ≤ dx ∧ dx ≤ 200) (hm : In100 m) (h1 : (∀ p q : Int, 0 < q → ¬inX x dx m p q) → Q .non)
    (h2 : ∀ (n v : Int) (k : Bool) (o w : Int) (l : Bool), 0 < v → 0 < w → Int.gcd n v = 1 → Int.gcd o w = 1 → v ≤ 1000 → w ≤ 1000 → (∀ p q : Int, 0 < q → 0 ≤ p → p ≤ q → (inX x dx m p q ↔ geL n v k p q ∧ leH o w l p q)) → Q (.tup [.tup [.int n, .int v], .bl k, .tup [.int o, .int w], .bl l])) :
    c_span [.int x, .int dx, .int m] Q := by
  unfold In100 at *
  unfold c_span
  walk_at "dv"
  split
  · rename_i e
    subst e
    split
    · rename_i e
      subst e
      refine h2 0 1 true 1 1 true (by decide) (by decide) (by decide) (by decide) (by decide) (by decide) fun p q q0 p0 p1 => ?_
      unfold inX geL leH
      rw [if_pos rfl, if_pos rfl]
      have e1 : (2 * m - 1) * q = 2 * m * q - q := by grind
      have e2 : (2 * m + 1) * q = 2 * m * q + q := by grind
      omega
    · rename_i ne
      refine h1 fun p q q0 h => ?_
      unfold inX at h
      rw [Int.mul_zero, Int.zero_mul, Int.add_zero] at h
      have a1 := (mul_le_iff q0).mp h.1
      have a2 := (mul_lt_iff q0).mp h.2
      omega
  · rename_i ne
    refine ⟨mulOk (by omega), mulOk (by omega), lowest_ok (by omega) (by omega) ?_⟩
    obtain ⟨n, v, e1, v0, r1, -, s1, c1⟩ := lowD_spec (o := 2 * (m - x) - 1) (u := 2 * dx) (by omega)
    rw [e1]
    walk_at "dv"
    refine ⟨mulOk (by omega), mulOk (by omega), lowest_ok (by omega) (by omega) ?_⟩
    obtain ⟨o, w, e2, w0, r2, -, s2, c2⟩ := lowD_spec (o := 2 * (m - x) + 1) (u := 2 * dx) (by omega)
    rw [e2]
    walk_at "dv"
    split
    · rename_i dp
      refine h2 n v true o w false v0 w0 c1 c2 (by omega) (by omega) fun p q q0 p0 p1 => ?_
      have f1 := frac_le (p := p) (q := q) v0 (show 0 < 2 * dx by omega) r1
      have f2 := frac_le (p := p) (q := q) w0 (show 0 < 2 * dx by omega) r2
      unfold inX geL leH
      rw [if_pos rfl, if_neg (by decide)]
      rw [show (2 * (m - x) - 1) * q = 2 * (m * q) - 2 * (x * q) - q by grind, show p * (2 * dx) = 2 * (dx * p) by grind] at f1
      rw [show (2 * (m - x) + 1) * q = 2 * (m * q) - 2 * (x * q) + q by grind, show p * (2 * dx) = 2 * (dx * p) by grind] at f2
      rw [show (2 * m - 1) * q = 2 * (m * q) - q by grind, show (2 * m + 1) * q = 2 * (m * q) + q by grind, show 2 * x * q = 2 * (x * q) by grind, show 2 * dx * p = 2 * (dx * p) by grind]
      omega
    · rename_i dp
      refine h2 o w false n v true w0 v0 c2 c1 (by omega) (by omega) fun p q q0 p0 p1 => ?_
      have f1 := frac_ge (n := n) (o := -(2 * (m - x) - 1)) (p := p) (q := q) v0 (show 0 < -(2 * dx) by omega) (by grind)
      have f2 := frac_ge (n := o) (o := -(2 * (m - x) + 1)) (p := p) (q := q) w0 (show 0 < -(2 * dx) by omega) (by grind)
      unfold inX geL leH
      rw [if_pos rfl, if_neg (by decide)]
      rw [show -(2 * (m - x) - 1) * q = -(2 * (m * q)) + 2 * (x * q) + q by grind, show p * -(2 * dx) = -(2 * (dx * p)) by grind] at f1
      rw [show -(2 * (m - x) + 1) * q = -(2 * (m * q)) + 2 * (x * q) - q by grind, show p * -(2 * dx) = -(2 * (dx * p)) by grind] at f2
      rw [show (2 * m - 1) * q = 2 * (m * q) - q by grind, show (2 * m + 1) * q = 2 * (m * q) + q by grind, show 2 * x * q = 2 * (x * q) by grind, show 2 * dx * p = 2 * (dx * p) by grind]
      omega
theorem forD_rest {g : DG} {b : DS} {N : DN} (I : List D → List Slot → Prop) : ∀ (ds : List D) (ρ : List Slot), I ds ρ →
    (∀ (d : D) (ds : List D) (ρ : List Slot) (M : DN), I (d :: ds) ρ → (∀ ρ', I ds ρ' → M.nx ρ') → (∀ ρ', I ds ρ' → M.ct ρ') → M.rt = N.rt → M.bk = N.nx → g d ρ (fun ρ' => b M ρ')) → (∀ ρ, I [] ρ → N.nx ρ) → forD g b N ds ρ
  | [], ρ, h, _, e => e ρ h
  | d :: ds, ρ, h, s, e => s d ds ρ _ h (fun ρ' h' => forD_rest I ds ρ' h' s e) (fun ρ' h' => forD_rest I ds ρ' h' s e) rfl rfl
/-! what stands between two bounds -/
theorem cmp_le {n v w p q : Int} (w0 : 0 < w) : n * q ≤ p * v ↔ n * w * q ≤ p * v * w := by rw [← mul_le_iff (a := n * q) w0, show n * q * w = n * w * q by grind]
theorem cmp_lt {n v w p q : Int} (w0 : 0 < w) : n * q < p * v ↔ n * w * q < p * v * w := by rw [← mul_lt_iff (a := n * q) w0, show n * q * w = n * w * q by grind]
theorem cmp_ge {n v w p q : Int} (w0 : 0 < w) : p * v ≤ n * q ↔ p * v * w ≤ n * w * q := by rw [← mul_le_iff (b := n * q) w0, show n * q * w = n * w * q by grind]
theorem cmp_gt {n v w p q : Int} (w0 : 0 < w) : p * v < n * q ↔ p * v * w < n * w * q := by rw [← mul_lt_iff (b := n * q) w0, show n * q * w = n * w * q by grind]
theorem geL_upd {n v n2 v2 : Int} {k k2 : Bool} {p q : Int} (q0 : 0 < q) (v0 : 0 < v) (w0 : 0 < v2) (h : n * v2 < n2 * v ∨ (n * v2 = n2 * v ∧ k2 = false)) : (geL n v k p q ∧ geL n2 v2 k2 p q) ↔ geL n2 v2 k2 p q := by
  unfold geL
  rw [cmp_le (n := n) (v := v) w0, cmp_lt (n := n) (v := v) w0, cmp_le (n := n2) (v := v2) v0, cmp_lt (n := n2) (v := v2) v0, show p * v2 * v = p * v * v2 by grind]
  have f1 := mul_lt_iff (a := n * v2) (b := n2 * v) q0
  have f2 : n * v2 = n2 * v → n * v2 * q = n2 * v * q := fun e => by rw [e]
  generalize n * v2 * q = A at *
  generalize n2 * v * q = B at *
  generalize p * v * v2 = T at *
  cases k <;> cases k2 <;> simp only [if_true, if_false, Bool.false_eq_true, reduceCtorEq, and_false, or_false, and_true, reduceIte] at * <;> omega
theorem geL_stay {n v n2 v2 : Int} {k k2 : Bool} {p q : Int} (q0 : 0 < q) (v0 : 0 < v) (w0 : 0 < v2) (h1 : ¬n * v2 < n2 * v) (h2 : ¬(n * v2 = n2 * v ∧ k2 = false)) : (geL n v k p q ∧ geL n2 v2 k2 p q) ↔ geL n v k p q := by
  unfold geL
  rw [cmp_le (n := n) (v := v) w0, cmp_lt (n := n) (v := v) w0, cmp_le (n := n2) (v := v2) v0, cmp_lt (n := n2) (v := v2) v0, show p * v2 * v = p * v * v2 by grind]
  have f1 := mul_lt_iff (a := n2 * v) (b := n * v2) q0
  have f2 : n * v2 = n2 * v → n * v2 * q = n2 * v * q := fun e => by rw [e]
  generalize n * v2 * q = A at *
  generalize n2 * v * q = B at *
  generalize p * v * v2 = T at *
  cases k <;> cases k2 <;> simp only [if_true, if_false, Bool.false_eq_true, reduceCtorEq, and_false, and_true, reduceIte] at * <;> omega
theorem leH_upd {n v n2 v2 : Int} {k k2 : Bool} {p q : Int} (q0 : 0 < q) (v0 : 0 < v) (w0 : 0 < v2) (h : n2 * v < n * v2 ∨ (n * v2 = n2 * v ∧ k2 = false)) : (leH n v k p q ∧ leH n2 v2 k2 p q) ↔ leH n2 v2 k2 p q := by
  unfold leH
  rw [cmp_ge (n := n) (v := v) w0, cmp_gt (n := n) (v := v) w0, cmp_ge (n := n2) (v := v2) v0, cmp_gt (n := n2) (v := v2) v0, show p * v2 * v = p * v * v2 by grind]
  have f1 := mul_lt_iff (a := n2 * v) (b := n * v2) q0
  have f2 : n * v2 = n2 * v → n * v2 * q = n2 * v * q := fun e => by rw [e]
  generalize n * v2 * q = A at *
  generalize n2 * v * q = B at *
  generalize p * v * v2 = T at *
  cases k <;> cases k2 <;> simp only [if_true, if_false, Bool.false_eq_true, reduceCtorEq, and_false, or_false, and_true, reduceIte] at * <;> omega
theorem leH_stay {n v n2 v2 : Int} {k k2 : Bool} {p q : Int} (q0 : 0 < q) (v0 : 0 < v) (w0 : 0 < v2) (h1 : ¬n2 * v < n * v2) (h2 : ¬(n * v2 = n2 * v ∧ k2 = false)) : (leH n v k p q ∧ leH n2 v2 k2 p q) ↔ leH n v k p q := by
  unfold leH
  rw [cmp_ge (n := n) (v := v) w0, cmp_gt (n := n) (v := v) w0, cmp_ge (n := n2) (v := v2) v0, cmp_gt (n := n2) (v := v2) v0, show p * v2 * v = p * v * v2 by grind]
  have f1 := mul_lt_iff (a := n * v2) (b := n2 * v) q0
  have f2 : n * v2 = n2 * v → n * v2 * q = n2 * v * q := fun e => by rw [e]
  generalize n * v2 * q = A at *
  generalize n2 * v * q = B at *
  generalize p * v * v2 = T at *
  cases k <;> cases k2 <;> simp only [if_true, if_false, Bool.false_eq_true, reduceCtorEq, and_false, and_true, reduceIte] at * <;> omega
theorem between {n v m w : Int} {k l : Bool} (v0 : 0 < v) (w0 : 0 < w) : (∃ p q : Int, 0 < q ∧ geL n v k p q ∧ leH m w l p q) ↔ (n * w < m * v ∨ (n * w = m * v ∧ k = true ∧ l = true)) := by
  constructor
  · rintro ⟨p, q, q0, h1, h2⟩
    unfold geL at h1
    unfold leH at h2
    rw [cmp_le (n := n) (v := v) w0, cmp_lt (n := n) (v := v) w0] at h1
    rw [cmp_ge (n := m) (v := w) v0, cmp_gt (n := m) (v := w) v0, show p * w * v = p * v * w by grind] at h2
    have f1 := mul_lt_iff (a := n * w) (b := m * v) q0
    have f2 := mul_lt_iff (a := m * v) (b := n * w) q0
    generalize n * w * q = A at *
    generalize m * v * q = B at *
    generalize p * v * w = T at *
    cases k <;> cases l <;> simp only [if_true, if_false, Bool.false_eq_true, reduceCtorEq, and_false, or_false, and_true, reduceIte] at * <;> omega
  · rintro (h | ⟨h, rfl, rfl⟩)
    · refine ⟨n * w + m * v, 2 * (v * w), by have := Int.mul_pos v0 w0; omega, ?_, ?_⟩
      · have : n * (2 * (v * w)) < (n * w + m * v) * v := by
          rw [show n * (2 * (v * w)) = (2 * (n * w)) * v by grind, mul_lt_iff v0]
          omega
        unfold geL
        split
        · omega
        · exact this
      · have : (n * w + m * v) * w < m * (2 * (v * w)) := by
          rw [show m * (2 * (v * w)) = (2 * (m * v)) * w by grind, mul_lt_iff w0]
          omega
        unfold leH
        split
        · omega
        · exact this
    · refine ⟨n, v, v0, ?_, ?_⟩
      · unfold geL
        rw [if_pos rfl]
        omega
      · unfold leH
        rw [if_pos rfl]
        omega
def GoesI (a b c d m n : Int) (Q : D → Prop) (rem : List D) (ρ : List Slot) : Prop :=
  ∃ (n1 v1 : Int) (k1 : Bool) (n2 v2 : Int) (k2 : Bool) (s10 s11 s12 s13 : Slot),
    ρ = [.v (.tup [.int a, .int b, .int c, .int d]), .v (.tup [.int m, .int n]), .v (.bl k1), .v (.bl k2), .v (.int a), .v (.int b), .v (.int c), .v (.int d), .v (.tup [.int n1, .int v1]), .v (.tup [.int n2, .int v2]), s10, s11, s12, s13]
    ∧ 0 < v1 ∧ 0 < v2 ∧ v1 ≤ 1000 ∧ v2 ≤ 1000 ∧ Int.gcd n1 v1 = 1 ∧ Int.gcd n2 v2 = 1
    ∧ (∀ p q : Int, 0 < q → geL n1 v1 k1 p q → leH n2 v2 k2 p q → 0 ≤ p ∧ p ≤ q)
    ∧ ∃ ax : List (Int × Int × Int), rem = ax.map (fun x => .tup [.int x.1, .int x.2.1, .int x.2.2]) ∧ (∀ x ∈ ax, In100 x.1 ∧ (-200 ≤ x.2.1 ∧ x.2.1 ≤ 200) ∧ In100 x.2.2)
      ∧ ∀ p q : Int, 0 < q → 0 ≤ p → p ≤ q → ((inX a (c - a) m p q ∧ inX b (d - b) n p q) ↔ (geL n1 v1 k1 p q ∧ leH n2 v2 k2 p q ∧ ∀ x ∈ ax, inX x.1 x.2.1 x.2.2 p q))
theorem goes_ok {Q : D → Prop} {a b c d m n : Int} (ha : In100 a) (hb : In100 b) (hc : In100 c) (hd : In100 d) (hm : In100 m) (hn : In100 n) (hq : ∀ r : Bool, (r = true ↔ GoesP a b c d m n) → Q (.bl r)) : c_goes [.tup [.int a, .int b, .int c, .int d], .tup [.int m, .int n]] Q := by
  unfold c_goes
  walk_at "dw"
  refine forD_rest (GoesI a b c d m n Q) _ _ ?_ ?_ ?_
  · refine ⟨0, 1, true, 1, 1, true, _, _, _, _, rfl, by decide, by decide, by decide, by decide, by decide, by decide, ?_, [(a, c - a, m), (b, d - b, n)], rfl, ?_, ?_⟩
    · intro p q q0 h1 h2
      unfold geL at h1
      unfold leH at h2
      rw [if_pos rfl] at h1 h2
      omega
    · intro x hx
      simp only [List.mem_cons, List.not_mem_nil, or_false] at hx
      unfold In100 at *
      rcases hx with rfl | rfl <;> dsimp only
      · exact ⟨⟨by omega, by omega⟩, ⟨by omega, by omega⟩, ⟨by omega, by omega⟩⟩
      · exact ⟨⟨by omega, by omega⟩, ⟨by omega, by omega⟩, ⟨by omega, by omega⟩⟩
    · intro p q q0 p0 p1
      unfold geL leH
      rw [if_pos rfl, if_pos rfl]
      simp only [List.mem_cons, List.not_mem_nil, or_false, forall_eq_or_imp, forall_eq]
      constructor
      · exact fun z => ⟨by omega, by omega, z.1, z.2⟩
      · exact fun z => ⟨z.2.2.1, z.2.2.2⟩
  · rintro d0 ds ρ M ⟨n1, v1, k1, n2, v2, k2, s10, s11, s12, s13, rfl, v10, v20, b1, b2, g1, g2, hI, ax, hr, hx, hP⟩ hnx hct hrt hbk
    rcases ax with _ | ⟨⟨x, dx, mm⟩, ax⟩
    · exact absurd hr (by simp)
    rw [List.map_cons, List.cons.injEq] at hr
    obtain ⟨rfl, rfl⟩ := hr
    walk_at "dw"
    have hx0 := hx _ List.mem_cons_self
    refine span_ok hx0.1 hx0.2.1 hx0.2.2 ?_ ?_
    · intro h0
      walk_at "dw"
      rw [hrt]
      walk_at "dw"
      refine hq false ⟨fun z => by simp at z, ?_⟩
      rintro ⟨p, q, q0, p0, p1, i1, i2⟩
      exact absurd (((hP p q q0 p0 p1).mp ⟨i1, i2⟩).2.2 _ List.mem_cons_self) (h0 p q q0)
    · intro n3 v3 k3 n4 v4 k4 v30 v40 g3 g4 b3 b4 hS
      walk_at "dw"
      have Lq : (n1 = n3 ∧ v1 = v3) ↔ n1 * v3 = n3 * v1 := ⟨fun z => by rw [z.1, z.2], fun z => cop_eq v10 v30 g1 g3 z⟩
      have Hq : (n2 = n4 ∧ v2 = v4) ↔ n2 * v4 = n4 * v2 := ⟨fun z => by rw [z.1, z.2], fun z => cop_eq v20 v40 g2 g4 z⟩
      have fin : ∀ (n5 v5 : Int) (k5 : Bool) (n6 v6 : Int) (k6 : Bool) (t10 t11 t12 t13 : Slot), 0 < v5 → 0 < v6 → v5 ≤ 1000 → v6 ≤ 1000 → Int.gcd n5 v5 = 1 → Int.gcd n6 v6 = 1 →
          (∀ p q : Int, 0 < q → ((geL n1 v1 k1 p q ∧ geL n3 v3 k3 p q) ↔ geL n5 v5 k5 p q)) → (∀ p q : Int, 0 < q → ((leH n2 v2 k2 p q ∧ leH n4 v4 k4 p q) ↔ leH n6 v6 k6 p q)) →
          M.nx [.v (.tup [.int a, .int b, .int c, .int d]), .v (.tup [.int m, .int n]), .v (.bl k5), .v (.bl k6), .v (.int a), .v (.int b), .v (.int c), .v (.int d), .v (.tup [.int n5, .int v5]), .v (.tup [.int n6, .int v6]), t10, t11, t12, t13] :=
        fun n5 v5 k5 n6 v6 k6 t10 t11 t12 t13 q1 q2 q3 q4 q5 q6 L H => hnx _ ⟨n5, v5, k5, n6, v6, k6, t10, t11, t12, t13, rfl, q1, q2, q3, q4, q5, q6, fun p q q0 h1 h2 => hI p q q0 ((L p q q0).mpr h1).1 ((H p q q0).mpr h2).1, ax, rfl, fun y hy => hx y (List.mem_cons_of_mem _ hy), fun p q q0 p0 p1 => by
          have e1 := hP p q q0 p0 p1
          have e2 := hS p q q0 p0 p1
          have e3 := L p q q0
          have e4 := H p q q0
          rw [List.forall_mem_cons] at e1
          dsimp only at e1
          rw [e2] at e1
          rw [e1, ← e3, ← e4]
          constructor
          · exact fun z => ⟨⟨z.1, z.2.2.1.1⟩, ⟨z.2.1, z.2.2.1.2⟩, z.2.2.2⟩
          · exact fun z => ⟨z.1.1, z.2.1.1, ⟨z.1.2, z.2.1.2⟩, z.2.2⟩⟩
      refine below_ok (by omega) (by omega) ?_
      walk_at "dw"
      simp only [Bool.and_eq_true, beq_iff_eq, Bool.not_eq_true']
      have high : ∀ (n5 v5 : Int) (k5 : Bool) (t10 t11 t12 t13 : Slot), 0 < v5 → v5 ≤ 1000 → Int.gcd n5 v5 = 1 → (∀ p q : Int, 0 < q → ((geL n1 v1 k1 p q ∧ geL n3 v3 k3 p q) ↔ geL n5 v5 k5 p q)) →
          (if n4 * v2 < n2 * v4 then M.nx [.v (.tup [.int a, .int b, .int c, .int d]), .v (.tup [.int m, .int n]), .v (.bl k5), .v (.bl k4), .v (.int a), .v (.int b), .v (.int c), .v (.int d), .v (.tup [.int n5, .int v5]), .v (.tup [.int n4, .int v4]), t10, t11, t12, t13]
           else if n2 = n4 ∧ v2 = v4 then (if k4 = false then M.nx [.v (.tup [.int a, .int b, .int c, .int d]), .v (.tup [.int m, .int n]), .v (.bl k5), .v (.bl k4), .v (.int a), .v (.int b), .v (.int c), .v (.int d), .v (.tup [.int n5, .int v5]), .v (.tup [.int n4, .int v4]), t10, t11, t12, t13]
             else M.nx [.v (.tup [.int a, .int b, .int c, .int d]), .v (.tup [.int m, .int n]), .v (.bl k5), .v (.bl k2), .v (.int a), .v (.int b), .v (.int c), .v (.int d), .v (.tup [.int n5, .int v5]), .v (.tup [.int n2, .int v2]), t10, t11, t12, t13])
           else M.nx [.v (.tup [.int a, .int b, .int c, .int d]), .v (.tup [.int m, .int n]), .v (.bl k5), .v (.bl k2), .v (.int a), .v (.int b), .v (.int c), .v (.int d), .v (.tup [.int n5, .int v5]), .v (.tup [.int n2, .int v2]), t10, t11, t12, t13]) := by
        intro n5 v5 k5 t10 t11 t12 t13 q1 q3 q5 L
        split
        · rename_i h
          exact fin _ _ _ _ _ _ _ _ _ _ q1 v40 q3 b4 q5 g4 L fun p q q0 => leH_upd q0 v20 v40 (.inl h)
        rename_i h1
        split
        · rename_i h2
          split
          · rename_i h3
            exact fin _ _ _ _ _ _ _ _ _ _ q1 v40 q3 b4 q5 g4 L fun p q q0 => leH_upd q0 v20 v40 (.inr ⟨Hq.mp h2, h3⟩)
          · rename_i h3
            exact fin _ _ _ _ _ _ _ _ _ _ q1 v20 q3 b2 q5 g2 L fun p q q0 => leH_stay q0 v20 v40 h1 fun z => h3 z.2
        · rename_i h2
          exact fin _ _ _ _ _ _ _ _ _ _ q1 v20 q3 b2 q5 g2 L fun p q q0 => leH_stay q0 v20 v40 h1 fun z => h2 (Hq.mpr z.1)
      split
      · rename_i h
        refine below_ok (by omega) (by omega) ?_
        walk_at "dw"
        simp only [Bool.and_eq_true, beq_iff_eq, Bool.not_eq_true']
        exact high _ _ _ _ _ _ _ v30 b3 g3 fun p q q0 => geL_upd q0 v10 v30 (.inl h)
      rename_i h1
      split
      · rename_i h2
        split
        · rename_i h3
          refine below_ok (by omega) (by omega) ?_
          walk_at "dw"
          simp only [Bool.and_eq_true, beq_iff_eq, Bool.not_eq_true']
          exact high _ _ _ _ _ _ _ v30 b3 g3 fun p q q0 => geL_upd q0 v10 v30 (.inr ⟨Lq.mp h2, h3⟩)
        · rename_i h3
          refine below_ok (by omega) (by omega) ?_
          walk_at "dw"
          simp only [Bool.and_eq_true, beq_iff_eq, Bool.not_eq_true']
          exact high _ _ _ _ _ _ _ v10 b1 g1 fun p q q0 => geL_stay q0 v10 v30 h1 fun z => h3 z.2
      · rename_i h2
        refine below_ok (by omega) (by omega) ?_
        walk_at "dw"
        simp only [Bool.and_eq_true, beq_iff_eq, Bool.not_eq_true']
        exact high _ _ _ _ _ _ _ v10 b1 g1 fun p q q0 => geL_stay q0 v10 v30 h1 fun z => h2 (Lq.mpr z.1)
  · rintro ρ ⟨n1, v1, k1, n2, v2, k2, s10, s11, s12, s13, rfl, v10, v20, b1, b2, g1, g2, hI, ax, hr, hx, hP⟩
    walk_at "dw"
    refine below_ok (by omega) (by omega) ?_
    walk_at "dw"
    obtain rfl : ax = [] := by
      cases ax with
      | nil => rfl
      | cons _ _ => simp at hr
    have key : GoesP a b c d m n ↔ (n1 * v2 < n2 * v1 ∨ (n1 * v2 = n2 * v1 ∧ k1 = true ∧ k2 = true)) := by
      rw [← between v10 v20]
      constructor
      · rintro ⟨p, q, q0, p0, p1, i1, i2⟩
        have := (hP p q q0 p0 p1).mp ⟨i1, i2⟩
        exact ⟨p, q, q0, this.1, this.2.1⟩
      · rintro ⟨p, q, q0, h1, h2⟩
        have h3 := hI p q q0 h1 h2
        have := (hP p q q0 h3.1 h3.2).mpr ⟨h1, h2, by simp⟩
        exact ⟨p, q, q0, h3.1, h3.2, this.1, this.2⟩
    have Lq : (n1 = n2 ∧ v1 = v2) ↔ n1 * v2 = n2 * v1 := ⟨fun z => by rw [z.1, z.2], fun z => cop_eq v10 v20 g1 g2 z⟩
    simp only [Bool.and_eq_true, beq_iff_eq]
    split
    · rename_i h
      exact hq true ⟨fun _ => key.mpr (.inl h), fun _ => rfl⟩
    rename_i h1
    split
    · rename_i h2
      split
      · rename_i h3
        refine hq k2 ⟨fun z => key.mpr (.inr ⟨Lq.mp h2, h3, z⟩), fun z => (key.mp z).elim (fun z => absurd z h1) fun z => z.2.2⟩
      · rename_i h3
        refine hq false ⟨fun z => by simp at z, fun z => (key.mp z).elim (fun z => absurd z h1) fun z => absurd z.2.1 h3⟩
    · rename_i h2
      refine hq false ⟨fun z => by simp at z, fun z => (key.mp z).elim (fun z => absurd z h1) fun z => absurd (Lq.mpr z.1) h2⟩
theorem goesP_r {a b c d m n : Int} : GoesP c d a b m n ↔ GoesP a b c d m n := by
  have key : ∀ a b c d : Int, GoesP a b c d m n → GoesP c d a b m n := by
    rintro a b c d ⟨p, q, q0, p0, p1, i1, i2⟩
    refine ⟨q - p, q, q0, by omega, by omega, ?_, ?_⟩
    · unfold inX at *
      rw [show 2 * c * q + 2 * (a - c) * (q - p) = 2 * a * q + 2 * (c - a) * p by grind]
      exact i1
    · unfold inX at *
      rw [show 2 * d * q + 2 * (b - d) * (q - p) = 2 * b * q + 2 * (d - b) * p by grind]
      exact i2
  exact ⟨key _ _ _ _, key _ _ _ _⟩

/-! ### the law's own clipping -/
def cloX (x dx m p q : Int) : Prop := (2 * m - 1) * q ≤ 2 * x * q + 2 * dx * p ∧ 2 * x * q + 2 * dx * p ≤ (2 * m + 1) * q
theorem law_clip_ok {Q : D → Prop} {x dx m : Int} (h1 : (∀ p q : Int, 0 < q → ¬cloX x dx m p q) → Q (.lst []))
    (h2 : ∀ n v o w : Int, 0 < v → 0 < w → v ≤ 2 * dx.natAbs + 1 → w ≤ 2 * dx.natAbs + 1 → (∀ p q : Int, 0 < q → 0 ≤ p → p ≤ q → (cloX x dx m p q ↔ geL n v true p q ∧ leH o w true p q)) → Q (.lst [.tup [.int n, .int v], .tup [.int o, .int w]])) :
    c_law_clip [.int (2 * x), .int (2 * dx), .int (2 * m - 1), .int (2 * m + 1)] Q := by
  unfold c_law_clip
  walk_at "dv"
  split
  · rename_i e
    have e : dx = 0 := by omega
    subst e
    have out : ¬(2 * m - 1 ≤ 2 * x ∧ 2 * x ≤ 2 * m + 1) → Q (.lst []) := by
      intro ne
      refine h1 fun p q q0 h => ?_
      unfold cloX at h
      rw [Int.mul_zero, Int.zero_mul, Int.add_zero] at h
      exact ne ⟨(mul_le_iff q0).mp h.1, (mul_le_iff q0).mp h.2⟩
    split
    · rename_i i1
      split
      · rename_i i2
        refine h2 0 1 1 1 (by decide) (by decide) (by decide) (by decide) fun p q q0 p0 p1 => ?_
        unfold cloX geL leH
        rw [if_pos rfl, if_pos rfl, Int.mul_zero, Int.zero_mul, Int.add_zero, mul_le_iff q0, mul_le_iff q0]
        omega
      · rename_i i2
        exact out fun z => i2 z.2
    · rename_i i1
      exact out fun z => i1 z.1
  · rename_i ne
    split
    · rename_i dn
      refine h2 _ _ _ _ (by omega) (by omega) (by omega) (by omega) fun p q q0 p0 p1 => ?_
      unfold cloX geL leH
      rw [if_pos rfl, if_pos rfl]
      rw [show (2 * x - (2 * m + 1)) * q = 2 * (x * q) - 2 * (m * q) - q by grind, show (2 * x - (2 * m - 1)) * q = 2 * (x * q) - 2 * (m * q) + q by grind, show p * (0 - 2 * dx) = -(2 * (dx * p)) by grind,
        show (2 * m - 1) * q = 2 * (m * q) - q by grind, show (2 * m + 1) * q = 2 * (m * q) + q by grind, show 2 * x * q = 2 * (x * q) by grind, show 2 * dx * p = 2 * (dx * p) by grind]
      omega
    · rename_i dn
      refine h2 _ _ _ _ (by omega) (by omega) (by omega) (by omega) fun p q q0 p0 p1 => ?_
      unfold cloX geL leH
      rw [if_pos rfl, if_pos rfl]
      rw [show (2 * m - 1 - 2 * x) * q = 2 * (m * q) - 2 * (x * q) - q by grind, show (2 * m + 1 - 2 * x) * q = 2 * (m * q) - 2 * (x * q) + q by grind, show p * (2 * dx) = 2 * (dx * p) by grind,
        show (2 * m - 1) * q = 2 * (m * q) - q by grind, show (2 * m + 1) * q = 2 * (m * q) + q by grind, show 2 * x * q = 2 * (x * q) by grind, show 2 * dx * p = 2 * (dx * p) by grind]
      omega
theorem law_later_ok {Q : D → Prop} {a b c d : Int} (hb : b ≤ 1000) (hd : d ≤ 1000) (b0 : 0 < b) (d0 : 0 < d) (h : ∀ n v : Int, 0 < v → v ≤ 1000 → (∀ p q : Int, 0 < q → (geL n v true p q ↔ geL a b true p q ∧ geL c d true p q)) → Q (.tup [.int n, .int v])) : c_law_later [.tup [.int a, .int b], .tup [.int c, .int d]] Q := by
  unfold c_law_later
  walk_at "dv"
  refine ⟨mulOk (by omega), mulOk (by omega), ?_⟩
  split
  · rename_i g
    refine h _ _ b0 hb fun p q q0 => ?_
    rw [and_comm]
    exact (geL_upd q0 d0 b0 (.inl g)).symm
  · rename_i g
    refine h _ _ d0 hd fun p q q0 => ?_
    rw [and_comm]
    exact (geL_stay q0 d0 b0 g fun z => by simp at z).symm
theorem law_sooner_ok {Q : D → Prop} {a b c d : Int} (hb : b ≤ 1000) (hd : d ≤ 1000) (b0 : 0 < b) (d0 : 0 < d) (h : ∀ n v : Int, 0 < v → v ≤ 1000 → (∀ p q : Int, 0 < q → (leH n v true p q ↔ leH a b true p q ∧ leH c d true p q)) → Q (.tup [.int n, .int v])) : c_law_sooner [.tup [.int a, .int b], .tup [.int c, .int d]] Q := by
  unfold c_law_sooner
  walk_at "dv"
  refine ⟨mulOk (by omega), mulOk (by omega), ?_⟩
  split
  · rename_i g
    refine h _ _ b0 hb fun p q q0 => ?_
    rw [and_comm]
    exact (leH_upd q0 d0 b0 (.inl g)).symm
  · rename_i g
    refine h _ _ d0 hd fun p q q0 => ?_
    rw [and_comm]
    exact (leH_stay q0 d0 b0 g fun z => by simp at z).symm
theorem law_inside_ok {Q : D → Prop} {a b c d m n p q : Int} (ha : In100 a) (hb : In100 b) (hc : In100 c) (hd : In100 d) (hm : In100 m) (hn : In100 n) (hq : ∀ r : Bool, (r = true ↔ (inX a (c - a) m p q ∧ inX b (d - b) n p q)) → Q (.bl r)) : c_law_inside [.tup [.int a, .int b, .int c, .int d], .tup [.int p, .int q], .tup [.int m, .int n]] Q := by
  unfold In100 at *
  unfold c_law_inside
  walk_at "dv"
  repeat' (first | split | refine and_mul ?_ ?_)
  all_goals first
    | omega
    | (refine hq _ ?_
       unfold inX
       simp only [decide_eq_true_eq, Bool.false_eq_true, false_iff]
       omega)
theorem no_both {α β l u h w p q : Int} (u0 : 0 < u) (w0 : 0 < w) (g1 : α * u = β * l) (g2 : α * w = β * h) (b1 : l * q ≤ p * u) (b2 : p * w ≤ h * q) (g3 : β * p < α * q) : False := by
  have k1 : 0 < β * (l * q - p * u) := by
    have := Int.mul_pos (show 0 < α * q - β * p by omega) u0
    have e : (α * q - β * p) * u = β * (l * q - p * u) := by grind
    omega
  have k2 : 0 < β * (h * q - p * w) := by
    have := Int.mul_pos (show 0 < α * q - β * p by omega) w0
    have e : (α * q - β * p) * w = β * (h * q - p * w) := by grind
    omega
  rcases Int.lt_or_le β 0 with h1 | h1
  · have := Int.mul_nonneg (show 0 ≤ -β by omega) (show 0 ≤ h * q - p * w by omega)
    rw [Int.neg_mul] at this
    omega
  · have := Int.mul_nonneg h1 (show 0 ≤ p * u - l * q by omega)
    have e : β * (l * q - p * u) = -(β * (p * u - l * q)) := by grind
    omega
theorem mid_in {x dx m l u h w p q : Int} (u0 : 0 < u) (w0 : 0 < w) (q0 : 0 < q) (c1 : cloX x dx m l u) (c2 : cloX x dx m h w) (b1 : l * q ≤ p * u) (b2 : p * w ≤ h * q) (i : inX x dx m p q) : inX x dx m (l * w + h * u) (2 * u * w) := by
  unfold cloX at c1 c2
  unfold inX at *
  have e2 : 2 * x * (2 * u * w) + 2 * dx * (l * w + h * u) = (2 * x * u + 2 * dx * l) * w + (2 * x * w + 2 * dx * h) * u := by grind
  constructor
  · have h1 := Int.mul_le_mul_of_nonneg_right c1.1 (show 0 ≤ w by omega)
    have h2 := Int.mul_le_mul_of_nonneg_right c2.1 (show 0 ≤ u by omega)
    have e1 : (2 * m - 1) * (2 * u * w) = (2 * m - 1) * u * w + (2 * m - 1) * w * u := by grind
    rw [e1, e2]
    omega
  · have h1 := Int.mul_le_mul_of_nonneg_right c1.2 (show 0 ≤ w by omega)
    have h2 := Int.mul_le_mul_of_nonneg_right c2.2 (show 0 ≤ u by omega)
    have e1 : (2 * m + 1) * (2 * u * w) = (2 * m + 1) * u * w + (2 * m + 1) * w * u := by grind
    rw [e1, e2]
    rcases Int.lt_or_le ((2 * x * u + 2 * dx * l) * w + (2 * x * w + 2 * dx * h) * u) ((2 * m + 1) * u * w + (2 * m + 1) * w * u) with z | z
    · exact z
    · exfalso
      have z1 : (2 * x * u + 2 * dx * l) = (2 * m + 1) * u := Int.eq_of_mul_eq_mul_right (a := w) (by omega) (by omega)
      have z2 : (2 * x * w + 2 * dx * h) = (2 * m + 1) * w := Int.eq_of_mul_eq_mul_right (a := u) (by omega) (by omega)
      exact no_both (α := 2 * m + 1 - 2 * x) (β := 2 * dx) u0 w0 (by grind) (by grind) b1 b2 (by have := i.2; grind)
theorem law_goes_ok {Q : D → Prop} {a b c d m n : Int} (ha : In100 a) (hb : In100 b) (hc : In100 c) (hd : In100 d) (hm : In100 m) (hn : In100 n) (hq : ∀ r : Bool, (r = true ↔ GoesP a b c d m n) → Q (.bl r)) : c_law_goes [.tup [.int a, .int b, .int c, .int d], .tup [.int m, .int n]] Q := by
  have inc : ∀ x dx mm p q : Int, inX x dx mm p q → cloX x dx mm p q := fun x dx mm p q z => ⟨z.1, Int.le_of_lt z.2⟩
  unfold c_law_goes
  have ha' := ha
  have hb' := hb
  have hc' := hc
  have hd' := hd
  have hm' := hm
  have hn' := hn
  unfold In100 at ha' hb' hc' hd' hm' hn'
  walk_at "dv"
  refine ⟨mulOk (by omega), mulOk (by omega), mulOk (by omega), mulOk (by omega), law_clip_ok ?_ ?_⟩
  · intro no
    walk_at "dv"
    refine ⟨mulOk (by omega), mulOk (by omega), mulOk (by omega), mulOk (by omega), law_clip_ok ?_ ?_⟩
    · intro no2
      walk_at "dv"
      exact hq false ⟨fun z => by simp at z, fun ⟨p, q, q0, p0, p1, i1, i2⟩ => absurd (inc _ _ _ _ _ i1) (no p q q0)⟩
    · intro n3 v3 n4 v4 v30 v40 b3 b4 hS
      walk_at "dv"
      exact hq false ⟨fun z => by simp at z, fun ⟨p, q, q0, p0, p1, i1, i2⟩ => absurd (inc _ _ _ _ _ i1) (no p q q0)⟩
  · intro n1 v1 n2 v2 v10 v20 b1 b2 hR
    walk_at "dv"
    refine ⟨mulOk (by omega), mulOk (by omega), mulOk (by omega), mulOk (by omega), law_clip_ok ?_ ?_⟩
    · intro no2
      walk_at "dv"
      exact ⟨by rfl, hq false ⟨fun z => by simp at z, fun ⟨p, q, q0, p0, p1, i1, i2⟩ => absurd (inc _ _ _ _ _ i2) (no2 p q q0)⟩⟩
    · intro n3 v3 n4 v4 v30 v40 b3 b4 hS
      walk_at "dv"
      refine ⟨by rfl, by rfl, law_later_ok (by omega) (by omega) v10 v30 fun n5 v5 v50 b5 h5 => ?_⟩
      walk_at "dv"
      refine law_later_ok (by decide) b5 (by decide) v50 fun l u u0 bu hl => ?_
      walk_at "dv"
      refine law_sooner_ok (by omega) (by omega) v20 v40 fun n6 v6 v60 b6 h6 => ?_
      walk_at "dv"
      refine law_sooner_ok (by decide) b6 (by decide) v60 fun h w w0 bw hh => ?_
      walk_at "dv"
      have hA : ∀ p q : Int, 0 < q → ((0 ≤ p ∧ p ≤ q ∧ cloX a (c - a) m p q ∧ cloX b (d - b) n p q) ↔ (geL l u true p q ∧ leH h w true p q)) := by
        intro p q q0
        rw [hl p q q0, hh p q q0, h5 p q q0, h6 p q q0]
        have g0 : geL 0 1 true p q ↔ 0 ≤ p := by
          unfold geL
          rw [if_pos rfl]
          omega
        have g1 : leH 1 1 true p q ↔ p ≤ q := by
          unfold leH
          rw [if_pos rfl]
          omega
        rw [g0, g1]
        constructor
        · rintro ⟨p0, p1, x1, x2⟩
          have y1 := (hR p q q0 p0 p1).mp x1
          have y2 := (hS p q q0 p0 p1).mp x2
          exact ⟨⟨p0, y1.1, y2.1⟩, p1, y1.2, y2.2⟩
        · rintro ⟨⟨p0, y1, y2⟩, p1, y3, y4⟩
          exact ⟨p0, p1, (hR p q q0 p0 p1).mpr ⟨y1, y3⟩, (hS p q q0 p0 p1).mpr ⟨y2, y4⟩⟩
      refine ⟨mulOk (by omega), mulOk (by omega), ?_⟩
      split
      · rename_i lt
        refine hq false ⟨fun z => by simp at z, fun ⟨p, q, q0, p0, p1, i1, i2⟩ => ?_⟩
        have := (between u0 w0).mp ⟨p, q, q0, (hA p q q0).mp ⟨p0, p1, inc _ _ _ _ _ i1, inc _ _ _ _ _ i2⟩⟩
        omega
      · rename_i ge
        refine ⟨mulOk (by omega), mulOk (by omega), mulOk (by omega), mulOk (by omega), ?_⟩
        simp only [lcD, dYes]
        walk_at "dv"
        have SA := (hA l u u0).mpr ⟨by unfold geL; rw [if_pos rfl]; omega, by unfold leH; rw [if_pos rfl]; omega⟩
        have SB := (hA h w w0).mpr ⟨by unfold geL; rw [if_pos rfl]; omega, by unfold leH; rw [if_pos rfl]; omega⟩
        have m0 : 0 < 2 * u * w := Int.mul_pos (by omega) w0
        have SM := (hA (l * w + h * u) (2 * u * w) m0).mpr ⟨by
          unfold geL
          rw [if_pos rfl, show l * (2 * u * w) = (2 * (l * w)) * u by grind, mul_le_iff u0]
          omega, by
          unfold leH
          rw [if_pos rfl, show h * (2 * u * w) = (2 * (h * u)) * w by grind, mul_le_iff w0]
          omega⟩
        refine law_inside_ok ha hb hc hd hm hn fun r1 f1 => ?_
        refine law_inside_ok ha hb hc hd hm hn fun r2 f2 => ?_
        refine law_inside_ok ha hb hc hd hm hn fun r3 f3 => ⟨by rfl, hq _ ?_⟩
        show (r1 || (r2 || (r3 || false))) = true ↔ _
        simp only [Bool.or_false, Bool.or_eq_true, f1, f2, f3]
        constructor
        · rintro (z | z | z)
          · exact ⟨l, u, u0, SA.1, SA.2.1, z.1, z.2⟩
          · exact ⟨h, w, w0, SB.1, SB.2.1, z.1, z.2⟩
          · exact ⟨_, _, m0, SM.1, SM.2.1, z.1, z.2⟩
        · rintro ⟨p, q, q0, p0, p1, i1, i2⟩
          have t := (hA p q q0).mp ⟨p0, p1, inc _ _ _ _ _ i1, inc _ _ _ _ _ i2⟩
          have t1 := t.1
          have t2 := t.2
          unfold geL at t1
          unfold leH at t2
          rw [if_pos rfl] at t1 t2
          exact .inr (.inr ⟨mid_in u0 w0 q0 SA.2.2.1 SB.2.2.1 t1 t2 i1, mid_in u0 w0 q0 SA.2.2.2 SB.2.2.2 t1 t2 i2⟩)
/-! ### places and their squares -/
theorem inX_mono {x dx m m' p q p' q' : Int} (q0 : 0 < q) (q1 : 0 < q') (hd : 0 ≤ dx) (t : p * q' ≤ p' * q) (h : inX x dx m p q) (h' : inX x dx m' p' q') : m ≤ m' := by
  unfold inX at *
  have k1 := Int.mul_le_mul_of_nonneg_right h.1 (show 0 ≤ q' by omega)
  have k2 := Int.mul_lt_mul_of_pos_right h'.2 q0
  have k3 := Int.mul_le_mul_of_nonneg_left t hd
  have e1 : (2 * x * q + 2 * dx * p) * q' = 2 * x * q * q' + 2 * (dx * (p * q')) := by grind
  have e2 : (2 * x * q' + 2 * dx * p') * q = 2 * x * q * q' + 2 * (dx * (p' * q)) := by grind
  have k4 : (2 * m - 1) * (q * q') < (2 * m' + 1) * (q * q') := by
    have f1 : (2 * m - 1) * q * q' = (2 * m - 1) * (q * q') := by grind
    have f2 : (2 * m' + 1) * q' * q = (2 * m' + 1) * (q * q') := by grind
    omega
  have := (mul_lt_iff (Int.mul_pos q0 q1)).mp k4
  omega
theorem inX_anti {x dx m m' p q p' q' : Int} (q0 : 0 < q) (q1 : 0 < q') (hd : dx ≤ 0) (t : p * q' ≤ p' * q) (h : inX x dx m p q) (h' : inX x dx m' p' q') : m' ≤ m := by
  unfold inX at *
  have k1 := Int.mul_le_mul_of_nonneg_right h'.1 (show 0 ≤ q by omega)
  have k2 := Int.mul_lt_mul_of_pos_right h.2 q1
  have k3 := Int.mul_le_mul_of_nonneg_left t (show 0 ≤ -dx by omega)
  rw [Int.neg_mul, Int.neg_mul] at k3
  have e1 : (2 * x * q + 2 * dx * p) * q' = 2 * x * q * q' + 2 * (dx * (p * q')) := by grind
  have e2 : (2 * x * q' + 2 * dx * p') * q = 2 * x * q * q' + 2 * (dx * (p' * q)) := by grind
  have k4 : (2 * m' - 1) * (q * q') < (2 * m + 1) * (q * q') := by
    have f1 : (2 * m' - 1) * q' * q = (2 * m' - 1) * (q * q') := by grind
    have f2 : (2 * m + 1) * q * q' = (2 * m + 1) * (q * q') := by grind
    omega
  have := (mul_lt_iff (Int.mul_pos q0 q1)).mp k4
  omega
/-- the number of the square -/
def sq (x dx p q : Int) : Int := (2 * x * q + 2 * dx * p + q) / (2 * q)
def Ahead (dx m m' : Int) : Prop := (0 ≤ dx → m ≤ m') ∧ (dx ≤ 0 → m' ≤ m)
theorem inX_ahead {x dx m m' p q p' q' : Int} (q0 : 0 < q) (q1 : 0 < q') (t : p * q' ≤ p' * q) (h : inX x dx m p q) (h' : inX x dx m' p' q') : Ahead dx m m' := ⟨fun hd => inX_mono q0 q1 hd t h h', fun hd => inX_anti q0 q1 hd t h h'⟩
/-! ### all squares of a stroke -/
def tp (s : Int × Int) : D := .tup [.int s.1, .int s.2]
abbrev Sp2 := Int × Int
def Bef (a b c d : Int) (s t : Sp2) : Prop := Ahead (c - a) s.1 t.1 ∧ Ahead (d - b) s.2 t.2 ∧ ¬(t.1 = s.1 ∧ t.2 = s.2)
theorem Ahead.antis {dx m n : Int} (h : Ahead dx m n) (h' : Ahead dx n m) : m = n := by
  unfold Ahead at *
  rcases Int.le_total 0 dx with z | z
  · have := h.1 z; have := h'.1 z; omega
  · have := h.2 z; have := h'.2 z; omega
theorem Ahead.trans {dx m n o : Int} (h : Ahead dx m n) (h' : Ahead dx n o) : Ahead dx m o := by
  unfold Ahead at *
  exact ⟨fun z => Int.le_trans (h.1 z) (h'.1 z), fun z => Int.le_trans (h'.2 z) (h.2 z)⟩
theorem Ahead.refl {dx m : Int} : Ahead dx m m := ⟨fun _ => Int.le_refl _, fun _ => Int.le_refl _⟩
theorem Bef.asym {a b c d : Int} {s t : Sp2} (h : Bef a b c d s t) (h' : Bef a b c d t s) : False := h.2.2 ⟨(h.1.antis h'.1).symm, (h.2.1.antis h'.2.1).symm⟩
theorem Bef.trans {a b c d : Int} {s t u : Sp2} (h : Bef a b c d s t) (h' : Bef a b c d t u) : Bef a b c d s u := ⟨h.1.trans h'.1, h.2.1.trans h'.2.1, fun z => by
  have e1 : u = s := Prod.ext z.1 z.2
  subst e1
  exact h.asym h'⟩
def Near1 (s t : Sp2) : Prop := (t.1 ≤ s.1 + 1 ∧ s.1 ≤ t.1 + 1) ∧ (t.2 ≤ s.2 + 1 ∧ s.2 ≤ t.2 + 1)
/-- the list of all squares in order along the stroke -/
structure SqOk (a b c d : Int) (L : List Sp2) : Prop where
  mem : ∀ s : Sp2, s ∈ L ↔ GoesP a b c d s.1 s.2
  ord : L.Pairwise (Bef a b c d)
  one : ∀ (i : Nat) (s t : Sp2), L[i]? = some s → L[i + 1]? = some t → Near1 s t
  hd : L.head? = some (a, b)
  lst : L.getLast? = some (c, d)
  few : L.length ≤ 402
theorem sorted_uniq {α : Type} {r : α → α → Prop} (as : ∀ x y, r x y → r y x → False) : ∀ {l l' : List α}, l.Pairwise r → l'.Pairwise r → (∀ x, x ∈ l ↔ x ∈ l') → l = l'
  | [], [], _, _, _ => rfl
  | [], y :: l', _, _, h => by have := (h y).mpr List.mem_cons_self; cases this
  | x :: l, [], _, _, h => by have := (h x).mp List.mem_cons_self; cases this
  | x :: l, y :: l', p, p', h => by
    have q := List.pairwise_cons.mp p
    have q' := List.pairwise_cons.mp p'
    have e : x = y := by
      rcases List.mem_cons.mp ((h x).mp List.mem_cons_self) with e | e
      · exact e
      · rcases List.mem_cons.mp ((h y).mpr List.mem_cons_self) with f | f
        · exact f.symm
        · exact (as _ _ (q'.1 x e) (q.1 y f)).elim
    subst e
    have nx : x ∉ l := fun z => as _ _ (q.1 x z) (q.1 x z)
    have nx' : x ∉ l' := fun z => as _ _ (q'.1 x z) (q'.1 x z)
    rw [sorted_uniq as q.2 q'.2 fun z => ?_]
    constructor
    · intro hz
      rcases List.mem_cons.mp ((h z).mp (List.mem_cons_of_mem _ hz)) with e | e
      · exact absurd (e ▸ hz) nx
      · exact e
    · intro hz
      rcases List.mem_cons.mp ((h z).mpr (List.mem_cons_of_mem _ hz)) with e | e
      · exact absurd (e ▸ hz) nx'
      · exact e
theorem SqOk.uniq {a b c d : Int} {L L' : List Sp2} (h : SqOk a b c d L) (h' : SqOk a b c d L') : L = L' :=
  sorted_uniq (fun _ _ => Bef.asym) h.ord h'.ord fun x => (h.mem x).trans (h'.mem x).symm
/-- what the loop has found -/
structure SqSo (a b c d : Int) (L : List Sp2) (h : Sp2) (m : Nat) : Prop where
  at_ : L.getLast? = some h
  gone : ∀ s ∈ L, GoesP a b c d s.1 s.2
  all : ∀ s : Sp2, GoesP a b c d s.1 s.2 → s ∈ L ∨ Bef a b c d h s
  ord : L.Pairwise (Bef a b c d)
  one : ∀ (i : Nat) (s t : Sp2), L[i]? = some s → L[i + 1]? = some t → Near1 s t
  hd : L.head? = some (a, b)
  left : m = (c - h.1).natAbs + (d - h.2).natAbs
  few : L.length + m ≤ 402
theorem goesP_end {a b c d : Int} : GoesP a b c d a b := ⟨0, 1, by decide, by decide, by decide, by unfold inX; omega, by unfold inX; omega⟩
theorem bef_start {a b c d : Int} {s : Sp2} (g : GoesP a b c d s.1 s.2) (n : s ≠ (a, b)) : Bef a b c d (a, b) s := by
  obtain ⟨p, q, q0, p0, p1, i1, i2⟩ := g
  refine ⟨?_, ?_, fun z => n (Prod.ext z.1 z.2)⟩
  · exact inX_ahead (p := 0) (q := 1) (by decide) q0 (by omega) (by unfold inX; omega) i1
  · exact inX_ahead (p := 0) (q := 1) (by decide) q0 (by omega) (by unfold inX; omega) i2
theorem bef_fin {a b c d : Int} {s : Sp2} (g : GoesP a b c d s.1 s.2) (n : s ≠ (c, d)) : Bef a b c d s (c, d) := by
  obtain ⟨p, q, q0, p0, p1, i1, i2⟩ := g
  refine ⟨?_, ?_, fun z => n (Prod.ext z.1.symm z.2.symm)⟩
  · exact inX_ahead (p' := 1) (q' := 1) q0 (by decide) (by omega) i1 (by unfold inX; omega)
  · exact inX_ahead (p' := 1) (q' := 1) q0 (by decide) (by omega) i2 (by unfold inX; omega)
theorem SqSo.start {a b c d : Int} (ha : In100 a) (hb : In100 b) (hc : In100 c) (hd : In100 d) : SqSo a b c d [(a, b)] (a, b) ((c - a).natAbs + (d - b).natAbs) where
  at_ := rfl
  gone := fun s hs => by rw [List.mem_singleton] at hs; subst hs; exact goesP_end
  all := fun s hs => by
    by_cases e : s = (a, b)
    · exact .inl (by rw [e]; exact List.mem_singleton_self _)
    · exact .inr (bef_start hs e)
  ord := List.pairwise_singleton _ _
  one := fun i s t _ h => by simp at h
  hd := rfl
  left := rfl
  few := by unfold In100 at *; simp only [List.length_singleton]; omega
theorem SqSo.ends {a b c d : Int} {L : List Sp2} {h : Sp2} {m : Nat} (S : SqSo a b c d L h m) (e : h.1 = c ∧ h.2 = d) : SqOk a b c d L := by
  have e' : h = (c, d) := Prod.ext e.1 e.2
  subst e'
  refine ⟨fun s => ⟨S.gone s, fun g => (S.all s g).elim id fun z => ?_⟩, S.ord, S.one, S.hd, S.at_, by have := S.few; omega⟩
  by_cases es : s = (c, d)
  · subst es
    exact List.mem_of_getLast? S.at_
  · exact (z.asym (bef_fin g es)).elim
theorem SqSo.step {a b c d : Int} {L : List Sp2} {h s : Sp2} {m : Nat} (S : SqSo a b c d L h m) (ne : ¬(h.1 = c ∧ h.2 = d)) (gs : GoesP a b c d s.1 s.2) (bs : Bef a b c d h s) (n1 : Near1 h s) (fin : ∀ t : Sp2, GoesP a b c d t.1 t.2 → Bef a b c d h t → t = s ∨ Bef a b c d s t) :
    ∃ m', m' < m ∧ SqSo a b c d (L ++ [s]) s m' := by
  have hl := S.at_
  have sf : s = (c, d) ∨ Bef a b c d s (c, d) := by
    by_cases e : s = (c, d)
    · exact .inl e
    · exact .inr (bef_fin gs e)
  have hm : (c - s.1).natAbs + (d - s.2).natAbs < m := by
    have := S.left
    have hf : h = (c, d) ∨ Bef a b c d h (c, d) := by
      by_cases e : h = (c, d)
      · exact .inl e
      · exact .inr (bef_fin (S.gone h (List.mem_of_getLast? hl)) e)
    obtain ⟨s1, s2⟩ := s
    obtain ⟨h1, h2⟩ := h
    unfold Bef Ahead at bs sf hf
    dsimp only at *
    simp only [Prod.mk.injEq] at sf hf
    omega
  refine ⟨_, hm, ⟨by simp, fun t ht => ?_, fun t gt => ?_, ?_, fun i x y hx hy => ?_, ?_, rfl, ?_⟩⟩
  · rcases List.mem_append.mp ht with z | z
    · exact S.gone t z
    · rw [List.mem_singleton] at z; subst z; exact gs
  · rcases S.all t gt with z | z
    · exact .inl (List.mem_append_left _ z)
    · rcases fin t gt z with e | e
      · exact .inl (by rw [e]; exact List.mem_append_right _ (List.mem_singleton_self _))
      · exact .inr e
  · refine List.pairwise_append.mpr ⟨S.ord, List.pairwise_singleton _ _, fun x hx y hy => ?_⟩
    rw [List.mem_singleton] at hy
    subst hy
    by_cases e : x = h
    · rw [e]; exact bs
    · obtain ⟨L', e'⟩ := List.getLast?_eq_some_iff.mp hl
      have o := S.ord
      rw [e'] at o hx
      rcases List.mem_append.mp hx with z | z
      · exact ((List.pairwise_append.mp o).2.2 x z h (List.mem_singleton_self _)).trans bs
      · exact absurd (List.mem_singleton.mp z) e
  · by_cases hi : i + 1 < L.length
    · rw [List.getElem?_append_left (by omega)] at hx hy
      exact S.one i x y hx hy
    · have h2 : i + 1 = L.length := by
        have := (List.getElem?_eq_some_iff.mp hy).1
        simp at this
        omega
      rw [List.getElem?_append_right (by omega)] at hy
      rw [List.getElem?_append_left (by omega)] at hx
      rw [show i + 1 - L.length = 0 by omega] at hy
      simp at hy
      subst hy
      rw [List.getLast?_eq_getElem?, show L.length - 1 = i by omega, hx] at hl
      cases hl
      exact n1
  · have := S.hd
    cases L with
    | nil => cases this
    | cons x l => exact this
  · have := S.few
    rw [List.length_append, List.length_singleton]
    omega
def In90 (i : Int) : Prop := -90 ≤ i ∧ i ≤ 90
theorem In90.h {i : Int} (h : In90 i) : In100 i := by unfold In90 In100 at *; omega
/-! ### places on strokes -/
/-- the place (x/v, y/w) lies on the stroke -/
def OnS (a b c d x v y w : Int) : Prop := ∃ p q : Int, 0 < q ∧ 0 ≤ p ∧ p ≤ q ∧ x * q = (a * q + (c - a) * p) * v ∧ y * q = (b * q + (d - b) * p) * w
theorem OnS.rev {a b c d x v y w : Int} (h : OnS a b c d x v y w) : OnS c d a b x v y w := by
  obtain ⟨p, q, q0, p0, p1, e1, e2⟩ := h
  refine ⟨q - p, q, q0, by omega, by omega, ?_, ?_⟩
  · rw [e1]; grind
  · rw [e2]; grind
def nearI (x v : Int) : Int := (2 * x + v).fdiv (2 * v)
theorem nearI_between {o u : Int} (h0 : 0 < u) : (2 * nearI o u - 1) * u ≤ 2 * o ∧ 2 * o < (2 * nearI o u + 1) * u := by
  unfold nearI
  rw [Int.fdiv_eq_ediv_of_nonneg _ (by omega)]
  generalize hn : (2 * o + u) / (2 * u) = n
  have h1 := Int.emod_nonneg (2 * o + u) (b := 2 * u) (by omega)
  have h2 := Int.emod_lt_of_pos (2 * o + u) (b := 2 * u) (by omega)
  have h3 := Int.mul_ediv_add_emod (2 * o + u) (2 * u)
  rw [hn] at h3
  have e1 : (2 * n - 1) * u = 2 * u * n - u := by grind
  have e2 : (2 * n + 1) * u = 2 * u * n + u := by grind
  omega
theorem inX_near {a dx x v p q : Int} (v0 : 0 < v) (q0 : 0 < q) (e : x * q = (a * q + dx * p) * v) : inX a dx (nearI x v) p q := by
  have h := nearI_between (o := x) v0
  unfold inX
  generalize nearI x v = n at *
  have k1 := Int.mul_le_mul_of_nonneg_right h.1 (show 0 ≤ q by omega)
  have k2 := Int.mul_lt_mul_of_pos_right h.2 q0
  have e1 : 2 * x * q = (2 * a * q + 2 * dx * p) * v := by grind
  rw [e1] at k1 k2
  refine ⟨?_, ?_⟩
  · refine (mul_le_iff v0).mp ?_
    rw [show (2 * n - 1) * q * v = (2 * n - 1) * v * q by grind]
    exact k1
  · refine (mul_lt_iff v0).mp ?_
    rw [show (2 * n + 1) * q * v = (2 * n + 1) * v * q by grind]
    exact k2
theorem OnS.goes {a b c d x v y w : Int} (v0 : 0 < v) (w0 : 0 < w) (h : OnS a b c d x v y w) : GoesP a b c d (nearI x v) (nearI y w) := by
  obtain ⟨p, q, q0, p0, p1, e1, e2⟩ := h
  exact ⟨p, q, q0, p0, p1, inX_near v0 q0 e1, inX_near w0 q0 e2⟩
theorem nearI_one {x : Int} : nearI x 1 = x := by
  unfold nearI
  rw [Int.fdiv_eq_ediv_of_nonneg _ (by omega)]
  omega
/-- a spot on the line of a stroke and between its ends lies on it -/
theorem onS_line {a b c d x y : Int} (n : ¬(c = a ∧ d = b)) (h : c0 a b c d x y = 0) (h1 : a < x ∨ (a = x ∧ b ≤ y)) (h2 : x < c ∨ (x = c ∧ y ≤ d)) : OnS a b c d x 1 y 1 := by
  unfold c0 at h
  by_cases e : c = a
  · subst e
    have hx : x = c := by omega
    subst hx
    exact ⟨y - b, d - b, by omega, by omega, by omega, by grind, by grind⟩
  · have e2 : (c - a) * (y - b) = (d - b) * (x - a) := by omega
    refine ⟨x - a, c - a, by omega, by omega, by omega, by grind, ?_⟩
    have : y * (c - a) = b * (c - a) + (c - a) * (y - b) := by grind
    rw [this, e2]; grind
theorem c0_ends {a b c d : Int} : c0 a b c d a b = 0 ∧ c0 a b c d c d = 0 := by unfold c0; constructor <;> grind
/-- lexicographic -/
def LexLe (i j k l : Int) : Prop := i < k ∨ (i = k ∧ j ≤ l)
theorem onS_lex {a b c d x y : Int} (n : ¬(c = a ∧ d = b)) (h : c0 a b c d x y = 0) (h1 : LexLe (mnx a b c d) (mny a b c d) x y) (h2 : LexLe x y (mxx a b c d) (mxy a b c d)) : OnS a b c d x 1 y 1 := by
  unfold LexLe mnx mny mxx mxy at *
  by_cases k : c < a ∨ (c = a ∧ d < b)
  · rw [if_pos k, if_pos k] at h1
    rw [if_neg (by omega), if_neg (by omega)] at h2
    refine (onS_line (a := c) (b := d) (c := a) (d := b) (by omega) ?_ h1 h2).rev
    rw [c0_r, h]; rfl
  · rw [if_neg k, if_neg k] at h1
    by_cases k2 : a < c ∨ (a = c ∧ b < d)
    · rw [if_pos k2, if_pos k2] at h2
      exact onS_line n h h1 h2
    · exact absurd ⟨by omega, by omega⟩ n
theorem c0_on {a b c d e f g h : Int} (n1 : ¬(c = a ∧ d = b)) (W : wh a b c d e f g h = 0) (C : c0 a b c d e f = 0) : c0 a b c d g h = 0 ∧ c0 e f g h a b = 0 ∧ c0 e f g h c d = 0 := by
  have ex := ec_x (a := a) (b := b) (c := c) (d := d) (e := e) (f := f) (g := g) (h := h)
  have ey := ec_y (a := a) (b := b) (c := c) (d := d) (e := e) (f := f) (g := g) (h := h)
  rw [W, C] at ex ey
  have z : e0 a b e f g h = 0 := by
    by_cases q : c = a
    · have q2 : d - b ≠ 0 := by omega
      have : e0 a b e f g h * (d - b) = 0 := by omega
      exact (Int.mul_eq_zero.mp this).resolve_right q2
    · have : e0 a b e f g h * (c - a) = 0 := by omega
      exact (Int.mul_eq_zero.mp this).resolve_right (by omega)
  have r1 := crs_c1 (a := a) (b := b) (c := c) (d := d) (e := e) (f := f) (g := g) (h := h)
  have r2 := crs_e0 (a := a) (b := b) (e := e) (f := f) (g := g) (h := h)
  have r3 := crs_e1 (a := a) (b := b) (c := c) (d := d) (e := e) (f := f) (g := g) (h := h)
  rw [crs_c0] at r1 r2 r3
  rw [r1, r2, r3, W, C, z]
  exact ⟨rfl, rfl, rfl⟩
/-- where two strokes meet, both are -/
inductive MeetC (a b c d e f g h : Int) : D → Prop where
  | non : MeetC a b c d e f g h .non
  | at_ (x v y w : Int) : 0 < v → 0 < w → v ≤ 80000 → w ≤ 80000 → Int.gcd x v = 1 → Int.gcd y w = 1 → OnS a b c d x v y w → OnS e f g h x v y w → MeetC a b c d e f g h (.tup [.str (Str.ofString "at"), .tup [.tup [.int x, .int v], .tup [.int y, .int w]]])
  | along (p q r s : Int) : (p < r ∨ (p = r ∧ q < s)) → OnS a b c d p 1 q 1 → OnS e f g h p 1 q 1 → OnS a b c d r 1 s 1 → OnS e f g h r 1 s 1 → MeetC a b c d e f g h (.tup [.str (Str.ofString "along"), .tup [.int p, .int q], .tup [.int r, .int s]])
theorem mx_or (i j k l : Int) : (mxx i j k l = i ∧ mxy i j k l = j ∧ LexLe k l i j) ∨ (mxx i j k l = k ∧ mxy i j k l = l ∧ LexLe i j k l) := by
  unfold mxx mxy LexLe
  by_cases h : i < k ∨ (i = k ∧ j < l)
  · rw [if_pos h, if_pos h]; exact .inr ⟨rfl, rfl, by omega⟩
  · rw [if_neg h, if_neg h]; exact .inl ⟨rfl, rfl, by omega⟩
theorem mn_or (i j k l : Int) : (mnx i j k l = i ∧ mny i j k l = j ∧ LexLe i j k l) ∨ (mnx i j k l = k ∧ mny i j k l = l ∧ LexLe k l i j) := by
  unfold mnx mny LexLe
  by_cases h : k < i ∨ (k = i ∧ l < j)
  · rw [if_pos h, if_pos h]; exact .inr ⟨rfl, rfl, by omega⟩
  · rw [if_neg h, if_neg h]; exact .inl ⟨rfl, rfl, by omega⟩
theorem LexLe.trans {i j k l m n : Int} (h : LexLe i j k l) (h' : LexLe k l m n) : LexLe i j m n := by unfold LexLe at *; omega
theorem LexLe.refl {i j : Int} : LexLe i j i j := .inr ⟨rfl, Int.le_refl _⟩
theorem mx_ge (i j k l : Int) : LexLe i j (mxx i j k l) (mxy i j k l) ∧ LexLe k l (mxx i j k l) (mxy i j k l) := by
  rcases mx_or i j k l with ⟨a, b, h⟩ | ⟨a, b, h⟩ <;> rw [a, b]
  · exact ⟨.refl, h⟩
  · exact ⟨h, .refl⟩
theorem mn_le (i j k l : Int) : LexLe (mnx i j k l) (mny i j k l) i j ∧ LexLe (mnx i j k l) (mny i j k l) k l := by
  rcases mn_or i j k l with ⟨a, b, h⟩ | ⟨a, b, h⟩ <;> rw [a, b]
  · exact ⟨.refl, h⟩
  · exact ⟨h, .refl⟩
theorem common_c {a b c d e f g h : Int} (n1 : ¬(c = a ∧ d = b)) (n2 : ¬(g = e ∧ h = f)) (W : wh a b c d e f g h = 0) (C : c0 a b c d e f = 0) : MeetC a b c d e f g h (commonD a b c d e f g h) := by
  obtain ⟨z1, z2, z3⟩ := c0_on n1 W C
  have y1 := c0_ends (a := a) (b := b) (c := c) (d := d)
  have y2 := c0_ends (a := e) (b := f) (c := g) (d := h)
  unfold commonD
  have lo := mx_or (mnx a b c d) (mny a b c d) (mnx e f g h) (mny e f g h)
  have hi := mn_or (mxx a b c d) (mxy a b c d) (mxx e f g h) (mxy e f g h)
  have l1 := mx_ge (mnx a b c d) (mny a b c d) (mnx e f g h) (mny e f g h)
  have h1 := mn_le (mxx a b c d) (mxy a b c d) (mxx e f g h) (mxy e f g h)
  have m1 := mn_or a b c d
  have m2 := mn_or e f g h
  have m3 := mx_or a b c d
  have m4 := mx_or e f g h
  generalize hp : mxx (mnx a b c d) (mny a b c d) (mnx e f g h) (mny e f g h) = p at *
  generalize hq : mxy (mnx a b c d) (mny a b c d) (mnx e f g h) (mny e f g h) = q at *
  generalize hr : mnx (mxx a b c d) (mxy a b c d) (mxx e f g h) (mxy e f g h) = r at *
  generalize hs : mny (mxx a b c d) (mxy a b c d) (mxx e f g h) (mxy e f g h) = s at *
  have Zp : c0 a b c d p q = 0 ∧ c0 e f g h p q = 0 := by
    rcases lo with ⟨e1, e2, -⟩ | ⟨e1, e2, -⟩ <;> rw [e1, e2]
    · rcases m1 with ⟨f1, f2, -⟩ | ⟨f1, f2, -⟩ <;> rw [f1, f2]
      · exact ⟨y1.1, z2⟩
      · exact ⟨y1.2, z3⟩
    · rcases m2 with ⟨f1, f2, -⟩ | ⟨f1, f2, -⟩ <;> rw [f1, f2]
      · exact ⟨C, y2.1⟩
      · exact ⟨z1, y2.2⟩
  have Zr : c0 a b c d r s = 0 ∧ c0 e f g h r s = 0 := by
    rcases hi with ⟨e1, e2, -⟩ | ⟨e1, e2, -⟩ <;> rw [e1, e2]
    · rcases m3 with ⟨f1, f2, -⟩ | ⟨f1, f2, -⟩ <;> rw [f1, f2]
      · exact ⟨y1.1, z2⟩
      · exact ⟨y1.2, z3⟩
    · rcases m4 with ⟨f1, f2, -⟩ | ⟨f1, f2, -⟩ <;> rw [f1, f2]
      · exact ⟨C, y2.1⟩
      · exact ⟨z1, y2.2⟩
  unfold comD
  by_cases k : r < p ∨ (r = p ∧ s < q)
  · rw [if_pos k]; exact .non
  · rw [if_neg k]
    have pr : LexLe p q r s := by unfold LexLe; omega
    have op1 : OnS a b c d p 1 q 1 := onS_lex n1 Zp.1 l1.1 (pr.trans h1.1)
    have op2 : OnS e f g h p 1 q 1 := onS_lex n2 Zp.2 l1.2 (pr.trans h1.2)
    have or1 : OnS a b c d r 1 s 1 := onS_lex n1 Zr.1 (l1.1.trans pr) h1.1
    have or2 : OnS e f g h r 1 s 1 := onS_lex n2 Zr.2 (l1.2.trans pr) h1.2
    by_cases k2 : p = r ∧ q = s
    · rw [if_pos k2]
      exact .at_ p 1 q 1 (by decide) (by decide) (by decide) (by decide) (Int.gcd_one_right ..) (Int.gcd_one_right ..) op1 op2
    · rw [if_neg k2]
      exact .along p q r s (by unfold LexLe at pr; omega) op1 op2 or1 or2
theorem frac_in {E W : Int} (w0 : W ≠ 0) (h : ¬0 < E * (E - W)) : (0 < W ∧ 0 ≤ E ∧ E ≤ W) ∨ (W < 0 ∧ E ≤ 0 ∧ W ≤ E) := by
  rcases Int.lt_or_gt_of_ne w0 with z | z
  · right
    refine ⟨z, ?_, ?_⟩
    · rcases Int.lt_or_le 0 E with k | k
      · exact absurd (Int.mul_pos k (by omega)) h
      · exact k
    · rcases Int.lt_or_le E W with k | k
      · exact absurd (Int.mul_pos_of_neg_of_neg (by omega) (by omega)) h
      · exact k
  · left
    refine ⟨z, ?_, ?_⟩
    · rcases Int.lt_or_le E 0 with k | k
      · exact absurd (Int.mul_pos_of_neg_of_neg k (by omega)) h
      · exact k
    · rcases Int.lt_or_le W E with k | k
      · exact absurd (Int.mul_pos (by omega) (by omega)) h
      · exact k
theorem onS_frac {a b c d x v y w E W : Int} (v0 : 0 < v) (w0 : 0 < w) (W0 : W ≠ 0) (h : ¬0 < E * (E - W)) (e1 : x * W = (a * W + E * (c - a)) * v) (e2 : y * W = (b * W + E * (d - b)) * w) : OnS a b c d x v y w := by
  rcases frac_in W0 h with ⟨k1, k2, k3⟩ | ⟨k1, k2, k3⟩
  · exact ⟨E, W, k1, k2, k3, by rw [e1]; grind, by rw [e2]; grind⟩
  · exact ⟨-E, -W, by omega, by omega, by omega, by rw [Int.mul_neg, e1]; grind, by rw [Int.mul_neg, e2]; grind⟩
theorem meet_c {a b c d e f g h : Int} (ha : In100 a) (hb : In100 b) (hc : In100 c) (hd : In100 d) (he : In100 e) (hf : In100 f) (hg : In100 g) (hh : In100 h) (n1 : ¬(c = a ∧ d = b)) (n2 : ¬(g = e ∧ h = f)) : MeetC a b c d e f g h (meetD a b c d e f g h) := by
  unfold meetD
  have ex := ec_x (a := a) (b := b) (c := c) (d := d) (e := e) (f := f) (g := g) (h := h)
  have ey := ec_y (a := a) (b := b) (c := c) (d := d) (e := e) (f := f) (g := g) (h := h)
  have cm := common_c (a := a) (b := b) (c := c) (d := d) (e := e) (f := f) (g := g) (h := h) n1 n2
  have bW : (wh a b c d e f g h).natAbs ≤ 80000 := by
    unfold wh In100 at *
    have := prod_b (i := c - a) (j := h - f) (m := 200) (n := 200) (by omega) (by omega)
    have := prod_b (i := d - b) (j := g - e) (m := 200) (n := 200) (by omega) (by omega)
    omega
  generalize hW : wh a b c d e f g h = W at *
  generalize hC : c0 a b c d e f = C at *
  generalize hE : e0 a b e f g h = E at *
  by_cases w0 : W = 0
  · rw [if_pos w0]
    by_cases k0 : C = 0
    · rw [if_pos k0]; exact cm w0 k0
    · rw [if_neg k0]; exact .non
  · rw [if_neg w0]
    by_cases k : 0 < C * (C + W) ∨ 0 < E * (E - W)
    · rw [if_pos k]; exact .non
    · rw [if_neg k]
      obtain ⟨x, v, e1, v0, r1, -, s1, c1⟩ := lowD_spec (o := a * W + E * (c - a)) w0
      obtain ⟨y, w, e2, w1, r2, -, s2, c2⟩ := lowD_spec (o := b * W + E * (d - b)) w0
      rw [e1, e2]
      refine .at_ x v y w v0 w1 (by omega) (by omega) c1 c2 (onS_frac v0 w1 w0 (fun z => k (.inr z)) r1 r2) (onS_frac (E := -C) v0 w1 w0 (fun z => k (.inl ?_)) ?_ ?_)
      · rw [show C * (C + W) = -C * (-C - W) by grind]; exact z
      · rw [r1]; grind
      · rw [r2]; grind
/-! ### lists of spots -/
theorem eqb_tp {s t : Sp2} : D.eqb (tp s) (tp t) = decide (s = t) := by
  obtain ⟨a, b⟩ := s
  obtain ⟨c, d⟩ := t
  simp only [tp, eqb_tt, eqbs_cc, eqb_ii, eqbs_nn, Bool.and_true, Prod.mk.injEq]
  rw [Bool.eq_iff_iff]
  simp
theorem any_tp {s : Sp2} : ∀ L : List Sp2, ((L.map tp).any fun z => D.eqb z (tp s)) = decide (s ∈ L)
  | [] => by simp
  | t :: L => by
    rw [List.map_cons, List.any_cons, any_tp L, eqb_tp, Bool.eq_iff_iff]
    simp only [Bool.or_eq_true, decide_eq_true_eq, List.mem_cons]
    exact or_congr_left ⟨Eq.symm, Eq.symm⟩
theorem layN_tp {s : Sp2} {n : Nat} : LayN (n + 1) (tp s) := fun d hd => by
  simp only [List.mem_cons, List.not_mem_nil, or_false] at hd
  rcases hd with rfl | rfl <;> cases n <;> exact True.intro
theorem layN_tps {L : List Sp2} {n : Nat} : LayN (n + 2) (.lst (L.map tp)) := fun d hd => by
  obtain ⟨s, -, rfl⟩ := List.mem_map.mp hd
  exact layN_tp
theorem lay_tps {L : List Sp2} : (D.lst (L.map tp)).lay = true := lay_of (n := 2) (by decide) layN_tps
theorem notInD_tp {Q : D → Prop} {m n : Int} {L : List Sp2} (h : Q (.bl (!decide ((m, n) ∈ L)))) : notInD (.tup [.int m, .int n]) (.lst (L.map tp)) Q :=
  ⟨lay_t2, lay_tps, by rw [show D.tup [.int m, .int n] = tp (m, n) from rfl, any_tp]; exact h⟩
theorem nearest_of {Q : D → Prop} {o u : Int} (h0 : 0 < u) (h1 : u < 1000000000000000000) (h : Q (.int (nearI o u))) : c_nearest [.tup [.int o, .int u]] Q := by
  unfold c_nearest
  walk_at "dv"
  exact ⟨mulOk (by omega), mulOk (by omega), divOk (by omega) (by omega), h⟩
theorem square_of_ok {Q : D → Prop} {x v y w : Int} (v0 : 0 < v) (v1 : v ≤ 80000) (w0 : 0 < w) (w1 : w ≤ 80000) (h : Q (.tup [.int (nearI x v), .int (nearI y w)])) : c_square_of [.tup [.tup [.int x, .int v], .tup [.int y, .int w]]] Q := by
  unfold c_square_of
  walk_at "dv"
  refine nearest_of v0 (by omega) ?_
  walk_at "dv"
  refine nearest_of w0 (by omega) ?_
  walk_at "dv"
  exact h
end DV

namespace DV
open PySem PySem.Spec PyProof.Rows L2
local macro_rules | `(tactic| walk_at "dv") => `(tactic| simp (config := { failIfUnchanged := false, implicitDefEqProofs := false }) only [↓k_for_q, ↓e_for_n, ↓e_for_c, ↓k_sAppend1_q, ↓k_sAppend_q, ↓k_sRetOwn_q, ↓k_sPar2_q, ↓k_sPar_q, ↓k_sPar33_q, ↓k_sPar3_q, ↓k_some_q, ↓k_asI_q, ↓k_asS_q, ↓k_rng1_q, ↓k_one_q, ↓k_rng22_q, ↓k_rng21_q, ↓k_rng2_q, ↓k_two_q, ↓k_non_q, ↓k_no_q, ↓k_sSet_q, ↓k_sAsg_q, ↓k_sAsg2_q, ↓k_sIf_q, ↓k_sDrop_q, ↓k_sOwn_q, ↓k_sFor_q, ↓k_gs_q, ↓k_dOp2_q, ↓k_dOp_q, ↓k_dCh4_q, ↓k_dCh3_q, ↓k_dCh2_q, ↓k_dCh1_q, ↓k_dUn_q, ↓k_dTest_q, ↓k_dAnd_q, ↓k_dOr_q, ↓k_dNot_q, ↓k_dAndV_q, ↓k_dOrV_q, ↓k_dIf_q, ↓k_dCons2_q, ↓k_dCons_q, ↓k_dTup_q, ↓k_dLst_q, ↓k_dCall_q, ↓k_dIsi_q, ↓k_dIsi2_q, ↓k_dSl3_q, ↓k_dSl2_q, ↓k_dSl_q, ↓k_dRev_q, ↓k_dLc_q, ↓k_dB_q, ↓chB_b, ↓tsB_b, ↓dVar_s, ↓ownL_o, ↓ownD_o, ↓roL_l, ↓e_sAppend, ↓e_sRetOwn, ↓two_2, ↓three_3, ↓e_sPar, ↓e_sPar3, ↓asI_i, ↓e_dPart, ↓asS_l, ↓asS_t, ↓e_iSeq, ↓one_1, ↓e_iRng1D, ↓e_iRng2D, ↓wipeD_n, ↓wipeD_c, ↓frz_0, ↓frz_0v, ↓frz_s, ↓e_fnD, ↓e_sSeq, ↓e_sNext, ↓e_sBreak, ↓e_sCont, ↓e_sSet, ↓e_sAsg, ↓e_sAsg2, ↓e_sIf, ↓e_sRet, ↓e_sRetN, ↓e_sDrop, ↓e_sNever, ↓e_sOwn, ↓e_sFrz, ↓e_sFor, ↓e_gN, ↓e_gT_t, ↓e_gsNil_n, ↓e_gsCons_c, ↓e_dVar_0, ↓e_dVar_0t, ↓e_dC, ↓e_dOp, ↓e_dChain, ↓e_dUn, ↓e_dTest, ↓e_dAnd, ↓e_dOr, ↓e_dNot, ↓e_dAndV, ↓e_dOrV, ↓e_dIf, ↓e_dNil, ↓e_dCons, ↓e_dTup, ↓e_dLst, ↓e_dCall, ↓e_dB, ↓e_dIsi, ↓e_dIsi2, ↓e_dSl, ↓e_dRev, ↓e_dNo, ↓e_dYes, ↓e_dLc,
  ↓addD_ii, ↓addD_tt, ↓addD_ll, ↓subD_ii, ↓mulD_ii, ↓fdivD_ii, ↓modD_ii, ↓powD_10_9, ↓powD_10_6, ↓ltA_ii, ↓leA_ii, ↓gtA_ii, ↓geA_ii, ↓ltA_t2, ↓leA_t2, ↓gtA_t2, ↓geA_t2, ↓max2A_ii, ↓min2A_ii, ↓slh4, ↓slt4', ↓max2A_c, ↓min2A_c, ↓revD_l, ↓isNon_n, ↓isNon_t, ↓isNon_l, ↓notNon_n, ↓notNon_t, ↓isBD_bb, ↓negD_i, ↓notD_b, ↓absD_i, ↓intC_i, ↓intC_b, ↓lenD_l, ↓lenD_t, ↓listD_l, ↓listD_t, ↓tupleD_l, ↓tupleD_t, ↓allD_l, ↓anyD_l, ↓ixT0, ↓ixT1, ↓ixT2, ↓ixT3, ↓ixL0, ↓ixL1, ↓ixL2, ↓ixL3, ↓slD_l,
  eqD, neD,  sl0, sl1, sl2, sl3, sl4, sl5, sl6, sl7, sl8, sl9, sl10, sl11, sl12, slt0, slt1, slt2, slt3, slt4, slt5, slt6, slt7, slt8, slt9, slt10, slt11, slt12, lay_i, lay_b, lay_n, lay_t0, lay_l0, lay_t2, lay_t4, eqb_ii, eqb_bb, eqb_ss, eqb_nn, eqb_tt, eqb_ll, eqbs_nn, eqbs_cc, eqbs_nc, eqbs_cn, tyOk_n, tyOk_b, tyOk_i, tyOk_s, tyOk_t, tyOk_l, isi_n, isi_b, isi_i, isi_s, isi_t, isi_l,
  List.map_cons, List.map_nil, List.cons_append, List.nil_append, List.append_nil, List.append_assoc, List.length_cons, List.length_nil, List.getElem?_cons_zero, List.getElem?_cons_succ, List.set_cons_zero, List.set_cons_succ, List.replicate, Nat.reduceAdd, Nat.reduceSub, Nat.zero_add, Nat.reduceLeDiff, Nat.reduceEqDiff,
  if_true, if_false, true_and, and_true, and_self, Bool.not_true, Bool.not_false, Bool.false_eq_true, Bool.and_true, Bool.true_and, Bool.or_false, Bool.false_or, Bool.or_true, Bool.true_or, decide_eq_true_eq, decide_true, decide_false, beq_self_eq_true, beq_iff_eq, String.reduceEq, reduceIte, reduceCtorEq])
local macro_rules | `(tactic| walk_at "dw") => `(tactic| simp (config := { failIfUnchanged := false, implicitDefEqProofs := false }) only [↓k_for_q, ↓k_sAppend1_q, ↓k_sAppend_q, ↓k_sRetOwn_q, ↓k_sPar2_q, ↓k_sPar_q, ↓k_sPar33_q, ↓k_sPar3_q, ↓k_some_q, ↓k_asI_q, ↓k_asS_q, ↓k_rng1_q, ↓k_one_q, ↓k_rng22_q, ↓k_rng21_q, ↓k_rng2_q, ↓k_two_q, ↓k_non_q, ↓k_no_q, ↓k_sSet_q, ↓k_sAsg_q, ↓k_sAsg2_q, ↓k_sIf_q, ↓k_sDrop_q, ↓k_sOwn_q, ↓k_sFor_q, ↓k_gs_q, ↓k_dOp2_q, ↓k_dOp_q, ↓k_dCh4_q, ↓k_dCh3_q, ↓k_dCh2_q, ↓k_dCh1_q, ↓k_dUn_q, ↓k_dTest_q, ↓k_dAnd_q, ↓k_dOr_q, ↓k_dNot_q, ↓k_dAndV_q, ↓k_dOrV_q, ↓k_dIf_q, ↓k_dCons2_q, ↓k_dCons_q, ↓k_dTup_q, ↓k_dLst_q, ↓k_dCall_q, ↓k_dIsi_q, ↓k_dIsi2_q, ↓k_dSl3_q, ↓k_dSl2_q, ↓k_dSl_q, ↓k_dRev_q, ↓k_dLc_q, ↓k_dB_q, ↓chB_b, ↓tsB_b, ↓dVar_s, ↓ownL_o, ↓ownD_o, ↓roL_l, ↓e_sAppend, ↓e_sRetOwn, ↓two_2, ↓three_3, ↓e_sPar, ↓e_sPar3, ↓asI_i, ↓e_dPart, ↓asS_l, ↓asS_t, ↓e_iSeq, ↓one_1, ↓e_iRng1D, ↓e_iRng2D, ↓wipeD_n, ↓wipeD_c, ↓frz_0, ↓frz_0v, ↓frz_s, ↓e_fnD, ↓e_sSeq, ↓e_sNext, ↓e_sBreak, ↓e_sCont, ↓e_sSet, ↓e_sAsg, ↓e_sAsg2, ↓e_sIf, ↓e_sRet, ↓e_sRetN, ↓e_sDrop, ↓e_sNever, ↓e_sOwn, ↓e_sFrz, ↓e_sFor, ↓e_gN, ↓e_gT_t, ↓e_gsNil_n, ↓e_gsCons_c, ↓e_dVar_0, ↓e_dVar_0t, ↓e_dC, ↓e_dOp, ↓e_dChain, ↓e_dUn, ↓e_dTest, ↓e_dAnd, ↓e_dOr, ↓e_dNot, ↓e_dAndV, ↓e_dOrV, ↓e_dIf, ↓e_dNil, ↓e_dCons, ↓e_dTup, ↓e_dLst, ↓e_dCall, ↓e_dB, ↓e_dIsi, ↓e_dIsi2, ↓e_dSl, ↓e_dRev, ↓e_dNo, ↓e_dYes, ↓e_dLc,
  ↓addD_ii, ↓addD_tt, ↓addD_ll, ↓subD_ii, ↓mulD_ii, ↓fdivD_ii, ↓modD_ii, ↓powD_10_9, ↓powD_10_6, ↓ltA_ii, ↓leA_ii, ↓gtA_ii, ↓geA_ii, ↓ltA_t2, ↓leA_t2, ↓gtA_t2, ↓geA_t2, ↓max2A_ii, ↓min2A_ii, ↓slh4, ↓slt4', ↓max2A_c, ↓min2A_c, ↓revD_l, ↓isNon_n, ↓isNon_t, ↓isNon_l, ↓notNon_n, ↓notNon_t, ↓isBD_bb, ↓negD_i, ↓notD_b, ↓absD_i, ↓intC_i, ↓intC_b, ↓lenD_l, ↓lenD_t, ↓listD_l, ↓listD_t, ↓tupleD_l, ↓tupleD_t, ↓allD_l, ↓anyD_l, ↓ixT0, ↓ixT1, ↓ixT2, ↓ixT3, ↓ixL0, ↓ixL1, ↓ixL2, ↓ixL3, ↓slD_l,
  eqD, neD,  sl0, sl1, sl2, sl3, sl4, sl5, sl6, sl7, sl8, sl9, sl10, sl11, sl12, slt0, slt1, slt2, slt3, slt4, slt5, slt6, slt7, slt8, slt9, slt10, slt11, slt12, lay_i, lay_b, lay_n, lay_t0, lay_l0, lay_t2, lay_t4, eqb_ii, eqb_bb, eqb_ss, eqb_nn, eqb_tt, eqb_ll, eqbs_nn, eqbs_cc, eqbs_nc, eqbs_cn, tyOk_n, tyOk_b, tyOk_i, tyOk_s, tyOk_t, tyOk_l, isi_n, isi_b, isi_i, isi_s, isi_t, isi_l,
  List.map_cons, List.map_nil, List.cons_append, List.nil_append, List.append_nil, List.append_assoc, List.length_cons, List.length_nil, List.getElem?_cons_zero, List.getElem?_cons_succ, List.set_cons_zero, List.set_cons_succ, List.replicate, Nat.reduceAdd, Nat.reduceSub, Nat.zero_add, Nat.reduceLeDiff, Nat.reduceEqDiff,
  if_true, if_false, true_and, and_true, and_self, Bool.not_true, Bool.not_false, Bool.false_eq_true, Bool.and_true, Bool.true_and, Bool.or_false, Bool.false_or, Bool.or_true, Bool.true_or, decide_eq_true_eq, decide_true, decide_false, beq_self_eq_true, beq_iff_eq, String.reduceEq, reduceIte, reduceCtorEq])
/-! ### where strokes meet, told by the places that both have -/
def LoP (p q x v y w : Int) : Prop := p * v < x ∨ (p * v = x ∧ q * w ≤ y)
def HiP (x v y w r s : Int) : Prop := x < r * v ∨ (x = r * v ∧ y ≤ s * w)
abbrev Plc := Int → Int → Int → Int → Prop
inductive MeetF (Com : Plc) : D → Prop where
  | non : (∀ x v y w, 0 < v → 0 < w → ¬Com x v y w) → MeetF Com .non
  | at_ (x v y w : Int) : 0 < v → 0 < w → v ≤ 80000 → w ≤ 80000 → Int.gcd x v = 1 → Int.gcd y w = 1 → Com x v y w → (∀ x' v' y' w', 0 < v' → 0 < w' → Com x' v' y' w' → x' * v = x * v' ∧ y' * w = y * w') → MeetF Com (.tup [.str (Str.ofString "at"), .tup [.tup [.int x, .int v], .tup [.int y, .int w]]])
  | along (p q r s : Int) : (p < r ∨ (p = r ∧ q < s)) → Com p 1 q 1 → Com r 1 s 1 → (∀ x v y w, 0 < v → 0 < w → Com x v y w → LoP p q x v y w ∧ HiP x v y w r s) → MeetF Com (.tup [.str (Str.ofString "along"), .tup [.int p, .int q], .tup [.int r, .int s]])
theorem MeetF.uniq {Com : Plc} {R R' : D} (h : MeetF Com R) (h' : MeetF Com R') : R = R' := by
  cases h with
  | non n =>
    cases h' with
    | non _ => rfl
    | at_ x v y w v0 w0 _ _ _ _ c _ => exact absurd c (n _ _ _ _ v0 w0)
    | along p q r s _ c _ _ => exact absurd c (n _ _ _ _ (by decide) (by decide))
  | at_ x v y w v0 w0 v9 w9 c1 c2 c u =>
    cases h' with
    | non n => exact absurd c (n _ _ _ _ v0 w0)
    | at_ x' v' y' w' v0' w0' v9' w9' c1' c2' c' u' =>
      obtain ⟨e1, e2⟩ := u x' v' y' w' v0' w0' c'
      obtain ⟨rfl, rfl⟩ := cop_eq v0 v0' c1 c1' e1.symm
      obtain ⟨rfl, rfl⟩ := cop_eq w0 w0' c2 c2' e2.symm
      rfl
    | along p q r s l k1 k2 _ =>
      exfalso
      obtain ⟨e1, e2⟩ := u p 1 q 1 (by decide) (by decide) k1
      obtain ⟨e3, e4⟩ := u r 1 s 1 (by decide) (by decide) k2
      have z1 : p = r := Int.eq_of_mul_eq_mul_right (show v ≠ 0 by omega) (by omega)
      have z2 : q = s := Int.eq_of_mul_eq_mul_right (show w ≠ 0 by omega) (by omega)
      omega
  | along p q r s l k1 k2 b =>
    cases h' with
    | non n => exact absurd k1 (n _ _ _ _ (by decide) (by decide))
    | at_ x' v' y' w' v0' w0' _ _ _ _ c' u =>
      exfalso
      obtain ⟨e1, e2⟩ := u p 1 q 1 (by decide) (by decide) k1
      obtain ⟨e3, e4⟩ := u r 1 s 1 (by decide) (by decide) k2
      have z1 : p = r := Int.eq_of_mul_eq_mul_right (show v' ≠ 0 by omega) (by omega)
      have z2 : q = s := Int.eq_of_mul_eq_mul_right (show w' ≠ 0 by omega) (by omega)
      omega
    | along p' q' r' s' l' k1' k2' b' =>
      have f1 := b p' 1 q' 1 (by decide) (by decide) k1'
      have f2 := b r' 1 s' 1 (by decide) (by decide) k2'
      have f3 := b' p 1 q 1 (by decide) (by decide) k1
      have f4 := b' r 1 s 1 (by decide) (by decide) k2
      unfold LoP HiP at *
      obtain ⟨rfl, rfl, rfl, rfl⟩ : p = p' ∧ q = q' ∧ r = r' ∧ s = s' := by omega
      rfl
theorem onS_between {a b c d x v y w : Int} (v0 : 0 < v) (w0 : 0 < w) (o : OnS a b c d x v y w) : LoP (mnx a b c d) (mny a b c d) x v y w ∧ HiP x v y w (mxx a b c d) (mxy a b c d) := by
  obtain ⟨p, q, q0, p0, p1, e1, e2⟩ := o
  -- the place times q
  have key : ∀ m : Int, (m * v < x ↔ m * q < a * q + (c - a) * p) ∧ (m * v = x ↔ m * q = a * q + (c - a) * p) ∧ (x < m * v ↔ a * q + (c - a) * p < m * q) := fun m => by
    have t1 : m * v * q = m * q * v := by grind
    refine ⟨?_, ?_, ?_⟩
    · rw [← mul_lt_iff (a := m * v) q0, e1, t1, mul_lt_iff v0]
    · constructor
      · intro h
        refine Int.eq_of_mul_eq_mul_right (show v ≠ 0 by omega) ?_
        rw [← t1, h, e1]
      · intro h
        refine Int.eq_of_mul_eq_mul_right (show q ≠ 0 by omega) ?_
        rw [e1, t1, h]
    · rw [← mul_lt_iff (b := m * v) q0, e1, t1, mul_lt_iff v0]
  have key2 : ∀ m : Int, (m * w ≤ y ↔ m * q ≤ b * q + (d - b) * p) ∧ (y ≤ m * w ↔ b * q + (d - b) * p ≤ m * q) := fun m => by
    have t1 : m * w * q = m * q * w := by grind
    exact ⟨by rw [← mul_le_iff (a := m * w) q0, e2, t1, mul_le_iff w0], by rw [← mul_le_iff (b := m * w) q0, e2, t1, mul_le_iff w0]⟩
  have lex : ∀ (a b c d : Int), LexLe a b c d → ∀ p q : Int, 0 < q → 0 ≤ p → p ≤ q → (a * q < a * q + (c - a) * p ∨ (a * q = a * q + (c - a) * p ∧ b * q ≤ b * q + (d - b) * p)) ∧ (a * q + (c - a) * p < c * q ∨ (a * q + (c - a) * p = c * q ∧ b * q + (d - b) * p ≤ d * q)) := fun a b c d h p q q0 p0 p1 => by
    have f : c * q - (a * q + (c - a) * p) = (c - a) * (q - p) := by grind
    have g : d * q - (b * q + (d - b) * p) = (d - b) * (q - p) := by grind
    unfold LexLe at h
    rcases h with h | ⟨h1, h2⟩
    · constructor
      · rcases Int.lt_or_le 0 p with z | z
        · left
          have := Int.mul_pos (show 0 < c - a by omega) z
          omega
        · right
          have : p = 0 := by omega
          subst this
          omega
      · rcases Int.lt_or_le p q with z | z
        · left
          have := Int.mul_pos (show 0 < c - a by omega) (show 0 < q - p by omega)
          omega
        · right
          have : q - p = 0 := by omega
          rw [this] at f g
          omega
    · subst h1
      have := Int.mul_nonneg (show 0 ≤ d - b by omega) p0
      have := Int.mul_nonneg (show 0 ≤ d - b by omega) (show 0 ≤ q - p by omega)
      rw [Int.sub_self, Int.zero_mul]
      constructor
      · right; omega
      · right; omega
  unfold LoP HiP
  rw [(key _).1, (key _).2.1, (key2 _).1, (key (mxx a b c d)).2.2, (key2 _).2, show (x = mxx a b c d * v ↔ a * q + (c - a) * p = mxx a b c d * q) from ⟨fun h => ((key _).2.1.mp h.symm).symm, fun h => ((key _).2.1.mpr h.symm).symm⟩]
  have g1 := lex a b c d
  have g2 := lex c d a b
  have r1 : c * q + (a - c) * (q - p) = a * q + (c - a) * p := by grind
  have r2 : d * q + (b - d) * (q - p) = b * q + (d - b) * p := by grind
  rcases Int.lt_trichotomy a c with h | h | h
  · have m1 : mnx a b c d = a ∧ mny a b c d = b ∧ mxx a b c d = c ∧ mxy a b c d = d := by
      unfold mnx mny mxx mxy
      rw [if_neg (by omega), if_neg (by omega), if_pos (by omega), if_pos (by omega)]
      exact ⟨rfl, rfl, rfl, rfl⟩
    rw [m1.1, m1.2.1, m1.2.2.1, m1.2.2.2]
    exact g1 (.inl h) p q q0 p0 p1
  · rcases Int.lt_or_le d b with k | k
    · have m1 : mnx a b c d = c ∧ mny a b c d = d ∧ mxx a b c d = a ∧ mxy a b c d = b := by
        unfold mnx mny mxx mxy
        rw [if_pos (by omega), if_pos (by omega), if_neg (by omega), if_neg (by omega)]
        exact ⟨rfl, rfl, rfl, rfl⟩
      rw [m1.1, m1.2.1, m1.2.2.1, m1.2.2.2]
      have := g2 (.inr ⟨h.symm, by omega⟩) (q - p) q q0 (by omega) (by omega)
      rw [r1, r2] at this
      exact this
    · have m1 : mnx a b c d = a ∧ mny a b c d = b ∧ mxx a b c d = c ∧ mxy a b c d = d := by
        unfold mnx mny mxx mxy
        rw [if_neg (by omega), if_neg (by omega)]
        by_cases z : b < d
        · rw [if_pos (by omega), if_pos (by omega)]; exact ⟨rfl, rfl, rfl, rfl⟩
        · rw [if_neg (by omega), if_neg (by omega)]; exact ⟨rfl, rfl, h, by omega⟩
      rw [m1.1, m1.2.1, m1.2.2.1, m1.2.2.2]
      exact g1 (.inr ⟨h, k⟩) p q q0 p0 p1
  · have m1 : mnx a b c d = c ∧ mny a b c d = d ∧ mxx a b c d = a ∧ mxy a b c d = b := by
      unfold mnx mny mxx mxy
      rw [if_pos (by omega), if_pos (by omega), if_neg (by omega), if_neg (by omega)]
      exact ⟨rfl, rfl, rfl, rfl⟩
    rw [m1.1, m1.2.1, m1.2.2.1, m1.2.2.2]
    have := g2 (.inl h) (q - p) q q0 (by omega) (by omega)
    rw [r1, r2] at this
    exact this
def Both (a b c d e f g h : Int) : Plc := fun x v y w => OnS a b c d x v y w ∧ OnS e f g h x v y w
/-- what a common place says of the reckoned numbers -/
theorem both_num {a b c d e f g h x v y w : Int} (v0 : 0 < v) (w0 : 0 < w) (o : Both a b c d e f g h x v y w) : ∃ p q r t : Int, 0 < q ∧ 0 ≤ p ∧ p ≤ q ∧ 0 < t ∧ 0 ≤ r ∧ r ≤ t ∧ e0 a b e f g h * q = p * wh a b c d e f g h ∧ c0 a b c d e f * t = -(r * wh a b c d e f g h) ∧ x * q = (a * q + (c - a) * p) * v ∧ y * q = (b * q + (d - b) * p) * w := by
  obtain ⟨⟨p, q, q0, p0, p1, e1, e2⟩, ⟨r, t, t0, r0, r1, e3, e4⟩⟩ := o
  have k1 : (a * q + (c - a) * p) * t = (e * t + (g - e) * r) * q := by
    refine Int.eq_of_mul_eq_mul_right (show v ≠ 0 by omega) ?_
    grind
  have k2 : (b * q + (d - b) * p) * t = (f * t + (h - f) * r) * q := by
    refine Int.eq_of_mul_eq_mul_right (show w ≠ 0 by omega) ?_
    grind
  refine ⟨p, q, r, t, q0, p0, p1, t0, r0, r1, ?_, ?_, e1, e2⟩
  · refine Int.eq_of_mul_eq_mul_right (show t ≠ 0 by omega) ?_
    unfold e0 wh
    grind
  · refine Int.eq_of_mul_eq_mul_right (show q ≠ 0 by omega) ?_
    unfold c0 wh
    grind
theorem lo_le {p q x v y w p' q' : Int} (h : LoP p q x v y w) (h' : LoP p' q' x v y w) : LoP (mxx p q p' q') (mxy p q p' q') x v y w := by
  rcases mx_or p q p' q' with ⟨e1, e2, -⟩ | ⟨e1, e2, -⟩ <;> rw [e1, e2]
  · exact h
  · exact h'
theorem hi_le {r s x v y w r' s' : Int} (h : HiP x v y w r s) (h' : HiP x v y w r' s') : HiP x v y w (mnx r s r' s') (mny r s r' s') := by
  rcases mn_or r s r' s' with ⟨e1, e2, -⟩ | ⟨e1, e2, -⟩ <;> rw [e1, e2]
  · exact h
  · exact h'
theorem lohi {p q r s x v y w : Int} (v0 : 0 < v) (w0 : 0 < w) (h : LoP p q x v y w) (h' : HiP x v y w r s) : LexLe p q r s := by
  unfold LoP HiP LexLe at *
  have k1 : p * v < r * v ∨ p * v = r * v := by omega
  rcases k1 with k | k
  · exact .inl ((mul_lt_iff v0).mp k)
  · have e := Int.eq_of_mul_eq_mul_right (show v ≠ 0 by omega) k
    subst e
    right
    refine ⟨rfl, (mul_le_iff w0).mp ?_⟩
    omega
theorem meet_f {a b c d e f g h : Int} (ha : In100 a) (hb : In100 b) (hc : In100 c) (hd : In100 d) (he : In100 e) (hf : In100 f) (hg : In100 g) (hh : In100 h) (n1 : ¬(c = a ∧ d = b)) (n2 : ¬(g = e ∧ h = f)) : MeetF (Both a b c d e f g h) (meetD a b c d e f g h) := by
  have mc := meet_c ha hb hc hd he hf hg hh n1 n2
  have bt := fun x v y w v0 w0 (o : Both a b c d e f g h x v y w) => both_num v0 w0 o
  unfold meetD at mc ⊢
  by_cases w0 : wh a b c d e f g h = 0
  · rw [if_pos w0] at mc ⊢
    by_cases k0 : c0 a b c d e f = 0
    · rw [if_pos k0] at mc ⊢
      unfold commonD comD at mc ⊢
      have bl : ∀ x v y w, 0 < v → 0 < w → Both a b c d e f g h x v y w → _ ∧ _ := fun x v y w v0 w0 o => ⟨lo_le (onS_between v0 w0 o.1).1 (onS_between v0 w0 o.2).1, hi_le (onS_between v0 w0 o.1).2 (onS_between v0 w0 o.2).2⟩
      generalize mxx (mnx a b c d) (mny a b c d) (mnx e f g h) (mny e f g h) = p at *
      generalize mxy (mnx a b c d) (mny a b c d) (mnx e f g h) (mny e f g h) = q at *
      generalize mnx (mxx a b c d) (mxy a b c d) (mxx e f g h) (mxy e f g h) = r at *
      generalize mny (mxx a b c d) (mxy a b c d) (mxx e f g h) (mxy e f g h) = s at *
      by_cases k : r < p ∨ (r = p ∧ s < q)
      · rw [if_pos k]
        refine .non fun x v y w v0 w0 o => ?_
        obtain ⟨l1, l2⟩ := bl x v y w v0 w0 o
        have := lohi v0 w0 l1 l2
        unfold LexLe at this
        omega
      · rw [if_neg k] at mc ⊢
        by_cases k2 : p = r ∧ q = s
        · rw [if_pos k2] at mc ⊢
          obtain ⟨rfl, rfl⟩ := k2
          cases mc with
          | at_ _ _ _ _ _ _ _ _ _ _ o1 o2 =>
            refine .at_ p 1 q 1 (by decide) (by decide) (by decide) (by decide) (Int.gcd_one_right ..) (Int.gcd_one_right ..) ⟨o1, o2⟩ fun x v y w v0 w0 o => ?_
            obtain ⟨l1, l2⟩ := bl x v y w v0 w0 o
            unfold LoP at l1
            unfold HiP at l2
            omega
        · rw [if_neg k2] at mc ⊢
          cases mc with
          | along _ _ _ _ l o1 o2 o3 o4 => exact .along p q r s l ⟨o1, o2⟩ ⟨o3, o4⟩ bl
    · rw [if_neg k0]
      refine .non fun x v y w v0 w1 o => ?_
      obtain ⟨p, q, r, t, q0, p0, p1, t0, r0, r1, b1, b2, -, -⟩ := bt x v y w v0 w1 o
      rw [w0, Int.mul_zero] at b2
      rcases Int.mul_eq_zero.mp (show c0 a b c d e f * t = 0 by omega) with z | z
      · exact k0 z
      · omega
  · rw [if_neg w0] at mc ⊢
    by_cases k : 0 < c0 a b c d e f * (c0 a b c d e f + wh a b c d e f g h) ∨ 0 < e0 a b e f g h * (e0 a b e f g h - wh a b c d e f g h)
    · rw [if_pos k]
      refine .non fun x v y w v0 w1 o => ?_
      obtain ⟨p, q, r, t, q0, p0, p1, t0, r0, r1, b1, b2, -, -⟩ := bt x v y w v0 w1 o
      generalize wh a b c d e f g h = W at *
      generalize c0 a b c d e f = C at *
      generalize e0 a b e f g h = E at *
      have ww : 0 ≤ W * W := by
        rcases Int.le_total 0 W with z | z
        · exact Int.mul_nonneg z z
        · exact Int.mul_nonneg_of_nonpos_of_nonpos z z
      rcases k with k | k
      · have i1 : C * (C + W) * (t * t) = -(W * W * (r * (t - r))) := by grind
        have i2 := Int.mul_nonneg ww (Int.mul_nonneg r0 (show 0 ≤ t - r by omega))
        have i3 := Int.mul_pos k (Int.mul_pos t0 t0)
        omega
      · have i1 : E * (E - W) * (q * q) = -(W * W * (p * (q - p))) := by grind
        have i2 := Int.mul_nonneg ww (Int.mul_nonneg p0 (show 0 ≤ q - p by omega))
        have i3 := Int.mul_pos k (Int.mul_pos q0 q0)
        omega
    · rw [if_neg k] at mc ⊢
      obtain ⟨x, v, e1, v0, r1, -, s1, c1⟩ := lowD_spec (o := a * wh a b c d e f g h + e0 a b e f g h * (c - a)) w0
      obtain ⟨y, w, e2, w1, r2, -, s2, c2⟩ := lowD_spec (o := b * wh a b c d e f g h + e0 a b e f g h * (d - b)) w0
      rw [e1, e2] at mc ⊢
      cases mc with
      | at_ _ _ _ _ _ _ v9 w9 _ _ o1 o2 =>
        refine .at_ x v y w v0 w1 v9 w9 c1 c2 ⟨o1, o2⟩ fun x' v' y' w' v0' w0' o => ?_
        obtain ⟨p, q, r, t, q0, p0, p1, t0, r0, r1', b1, b2, f1, f2⟩ := bt x' v' y' w' v0' w0' o
        generalize wh a b c d e f g h = W at *
        generalize e0 a b e f g h = E at *
        constructor
        · refine Int.eq_of_mul_eq_mul_right (a := q * W) (Int.mul_ne_zero (by omega) w0) ?_
          have : x' * v * (q * W) = (a * q * W + (c - a) * (p * W)) * v' * v := by grind
          rw [this, ← b1]
          grind
        · refine Int.eq_of_mul_eq_mul_right (a := q * W) (Int.mul_ne_zero (by omega) w0) ?_
          have : y' * w * (q * W) = (b * q * W + (d - b) * (p * W)) * w' * w := by grind
          rw [this, ← b1]
          grind

/-! ### strokes as numbers; moved, exchanged -/
abbrev S4 := Int × Int × Int × Int
def sd (s : S4) : D := .tup [.int s.1, .int s.2.1, .int s.2.2.1, .int s.2.2.2]
def S4.ok (s : S4) : Prop := (-40 ≤ s.1 ∧ s.1 ≤ 40) ∧ (-40 ≤ s.2.1 ∧ s.2.1 ≤ 40) ∧ (-40 ≤ s.2.2.1 ∧ s.2.2.1 ≤ 40) ∧ (-40 ≤ s.2.2.2 ∧ s.2.2.2 ≤ 40) ∧ ¬(s.2.2.1 = s.1 ∧ s.2.2.2 = s.2.1)
theorem StrokeOk.s4 {d : D} (h : StrokeOk d) : ∃ s : S4, d = sd s ∧ s.ok := by
  obtain ⟨a, b, c, e, rfl, a1, a2, b1, b2, c1, c2, e1, e2, n⟩ := h
  exact ⟨(a, b, c, e), rfl, ⟨a1, a2⟩, ⟨b1, b2⟩, ⟨c1, c2⟩, ⟨e1, e2⟩, n⟩
theorem S4.ok.sok {s : S4} (h : s.ok) : StrokeOk (sd s) := ⟨_, _, _, _, rfl, h.1.1, h.1.2, h.2.1.1, h.2.1.2, h.2.2.1.1, h.2.2.1.2, h.2.2.2.1.1, h.2.2.2.1.2, h.2.2.2.2⟩
end DV

namespace DV
open PySem PySem.Spec PyProof.Rows L2
/-! ### closures of slices with a step -/
def k_s3c (x : D) (lo hi : Option Int) (Q : D → Prop) (st : Option Int) : Prop := sl3D x lo hi st Q
theorem k_s3c_q {x : D} {lo hi : Option Int} {Q : D → Prop} {st : Option Int} : k_s3c x lo hi Q st = sl3D x lo hi st Q := rfl
def k_s3b (c : DO) (ρ : List Slot) (x : D) (lo : Option Int) (Q : D → Prop) (hi : Option Int) : Prop := c ρ (k_s3c x lo hi Q)
theorem k_s3b_q {c : DO} {ρ : List Slot} {x : D} {lo : Option Int} {Q : D → Prop} {hi : Option Int} : k_s3b c ρ x lo Q hi = c ρ (k_s3c x lo hi Q) := rfl
def k_s3a (h c : DO) (ρ : List Slot) (x : D) (Q : D → Prop) (lo : Option Int) : Prop := h ρ (k_s3b c ρ x lo Q)
theorem k_s3a_q {h c : DO} {ρ : List Slot} {x : D} {Q : D → Prop} {lo : Option Int} : k_s3a h c ρ x Q lo = h ρ (k_s3b c ρ x lo Q) := rfl
def k_s3 (l h c : DO) (ρ : List Slot) (Q : D → Prop) (x : D) : Prop := l ρ (k_s3a h c ρ x Q)
theorem k_s3_q {l h c : DO} {ρ : List Slot} {Q : D → Prop} {x : D} : k_s3 l h c ρ Q x = l ρ (k_s3a h c ρ x Q) := rfl
theorem e_dSl3 {t : DE} {l h c : DO} {ρ : List Slot} {Q : D → Prop} : dSl3 t l h c ρ Q = t ρ (k_s3 l h c ρ Q) := rfl
theorem sl3_r2 {d e : D} {Q : D → Prop} : sl3D (.tup [d, e]) none none (some (-1)) Q = Q (.tup [e, d]) := by
  have e1 : ixs none none (-1) 2 = [1, 0] := by decide
  have e2 : pick [d, e] (ixs none none (-1) [d, e].length) = [e, d] := by
    rw [show [d, e].length = 2 from rfl, e1]; rfl
  show (_ ∧ _ ∧ (pick [d, e] (ixs none none (-1) [d, e].length)).length ≤ sizeLine ∧ Q (.tup (pick [d, e] (ixs none none (-1) [d, e].length)))) = _
  rw [e2]
  exact propext ⟨fun z => z.2.2.2, fun z => ⟨by decide, by decide, by show 2 ≤ sizeLine; decide, z⟩⟩
theorem pick_rev {α : Type} (xs : List α) : pick xs (ixsL none none (-1) xs.length) = xs.reverse := by
  unfold ixsL pick
  rw [PySem.W.krv_bounds]
  show (sliceRange ((xs.length : Int) - 1) (-1) (-1)).filterMap (xs[·]?) = _
  rw [PySem.W.krv_sliceRange, PySem.W.krv_range, List.filterMap_reverse]
  have := PySem.W.krv_all xs.toArray
  simp only [List.size_toArray, List.getElem?_toArray] at this
  rw [this]
theorem sl3_rl {ds : List D} {Q : D → Prop} : sl3D (.lst ds) none none (some (-1)) Q = Q (.lst ds.reverse) := by
  show (_ ∧ Q (.lst (pick ds (ixsL none none (-1) ds.length)))) = _
  rw [pick_rev]
  exact propext ⟨fun z => z.2, fun z => ⟨by decide, z⟩⟩
end DV

namespace DV
open PySem PySem.Spec PyProof.Rows L2
local macro_rules | `(tactic| walk_at "dv") => `(tactic| simp (config := { failIfUnchanged := false, implicitDefEqProofs := false }) only [↓k_rtNl_q, ↓k_sSetO_q, ↓k_sRetO_q, ↓k_nl_q, ↓k_nls_q, ↓k_nlc_q, ↓k_back_q, ↓k_lend_q, ↓k_put2_q, ↓k_put1_q, ↓k_put_q, ↓e_fnO, ↓e_sSetO, ↓e_sRetO, ↓e_dBor, ↓e_dBorO, ↓e_dBorA, ↓e_dBorT, ↓frz_0u, ↓frz_0t, ↓e_sLend, ↓ownK_o, ↓e_sPutD, ↓e_dD0, ↓inKD_d, ↓notInKD_d, ↓k_for_q, ↓e_for_n, ↓e_for_c, ↓k_sAppend1_q, ↓k_sAppend_q, ↓k_sRetOwn_q, ↓k_sPar2_q, ↓k_sPar_q, ↓k_sPar33_q, ↓k_sPar3_q, ↓k_some_q, ↓k_asI_q, ↓k_asS_q, ↓k_rng1_q, ↓k_one_q, ↓k_rng22_q, ↓k_rng21_q, ↓k_rng2_q, ↓k_two_q, ↓k_non_q, ↓k_no_q, ↓k_sSet_q, ↓k_sAsg_q, ↓k_sAsg2_q, ↓k_sIf_q, ↓k_sDrop_q, ↓k_sOwn_q, ↓k_sFor_q, ↓k_gs_q, ↓k_dOp2_q, ↓k_dOp_q, ↓k_dCh4_q, ↓k_dCh3_q, ↓k_dCh2_q, ↓k_dCh1_q, ↓k_dUn_q, ↓k_dTest_q, ↓k_dAnd_q, ↓k_dOr_q, ↓k_dNot_q, ↓k_dAndV_q, ↓k_dOrV_q, ↓k_dIf_q, ↓k_dCons2_q, ↓k_dCons_q, ↓k_dTup_q, ↓k_dLst_q, ↓k_dCall_q, ↓k_dIsi_q, ↓k_dIsi2_q, ↓k_dSl3_q, ↓k_dSl2_q, ↓k_dSl_q, ↓k_dRev_q, ↓k_s3_q, ↓k_s3a_q, ↓k_s3b_q, ↓k_s3c_q, ↓e_dSl3, ↓sl3_r2, ↓sl3_rl, ↓k_dLc_q, ↓k_dB_q, ↓chB_b, ↓tsB_b, ↓dVar_s, ↓ownL_o, ↓ownD_o, ↓roL_l, ↓e_sAppend, ↓e_sRetOwn, ↓two_2, ↓three_3, ↓e_sPar, ↓e_sPar3, ↓asI_i, ↓e_dPart, ↓asS_l, ↓asS_t, ↓e_iSeq, ↓one_1, ↓e_iRng1D, ↓e_iRng2D, ↓wipeD_n, ↓wipeD_c, ↓frz_0, ↓frz_0v, ↓frz_s, ↓e_fnD, ↓e_sSeq, ↓e_sNext, ↓e_sBreak, ↓e_sCont, ↓e_sSet, ↓e_sAsg, ↓e_sAsg2, ↓e_sIf, ↓e_sRet, ↓e_sRetN, ↓e_sDrop, ↓e_sNever, ↓e_sOwn, ↓e_sFrz, ↓e_sFor, ↓e_gN, ↓e_gT_t, ↓e_gsNil_n, ↓e_gsCons_c, ↓e_dVar_0, ↓e_dVar_0t, ↓e_dC, ↓e_dOp, ↓e_dChain, ↓e_dUn, ↓e_dTest, ↓e_dAnd, ↓e_dOr, ↓e_dNot, ↓e_dAndV, ↓e_dOrV, ↓e_dIf, ↓e_dNil, ↓e_dCons, ↓e_dTup, ↓e_dLst, ↓e_dCall, ↓e_dB, ↓e_dIsi, ↓e_dIsi2, ↓e_dSl, ↓e_dRev, ↓e_dNo, ↓e_dYes, ↓e_dLc,
  ↓addD_ii, ↓addD_tt, ↓addD_ll, ↓subD_ii, ↓mulD_ii, ↓fdivD_ii, ↓modD_ii, ↓powD_10_9, ↓powD_10_6, ↓ltA_ii, ↓leA_ii, ↓gtA_ii, ↓geA_ii, ↓ltA_t2, ↓leA_t2, ↓gtA_t2, ↓geA_t2, ↓max2A_ii, ↓min2A_ii, ↓slh4, ↓slt4', ↓max2A_c, ↓min2A_c, ↓revD_l, ↓isNon_n, ↓isNon_t, ↓isNon_l, ↓notNon_n, ↓notNon_t, ↓isBD_bb, ↓negD_i, ↓notD_b, ↓absD_i, ↓intC_i, ↓intC_b, ↓lenD_l, ↓lenD_t, ↓listD_l, ↓listD_t, ↓tupleD_l, ↓tupleD_t, ↓allD_l, ↓anyD_l, ↓ixT0, ↓ixT1, ↓ixT2, ↓ixT3, ↓ixL0, ↓ixL1, ↓ixL2, ↓ixL3, ↓slD_l,
  eqD, neD,  sl0, sl1, sl2, sl3, sl4, sl5, sl6, sl7, sl8, sl9, sl10, sl11, sl12, slt0, slt1, slt2, slt3, slt4, slt5, slt6, slt7, slt8, slt9, slt10, slt11, slt12, lay_i, lay_b, lay_n, lay_t0, lay_l0, lay_t2, lay_t4, eqb_ii, eqb_bb, eqb_ss, eqb_nn, eqb_tt, eqb_ll, eqbs_nn, eqbs_cc, eqbs_nc, eqbs_cn, tag_n, tag_c, tagS_v, tagS_u, tagS_o, tagS_t, back_n, back_c, backS_vt, backS_tt, backS_ot, backS_ut, backS_u, backS_v, backS_l, backS_d, ownS_l, ownS_d, ownS_t, ownS_i, ownS_n, noLst_l, noLst_i, noLst_b, noLst_s, noLst_n, noLst_d, noLst_t, noLsts_n, noLsts_c, nlc_l, nlc_d, nlc_i, nlc_b, nlc_t, tyOk_n, tyOk_b, tyOk_i, tyOk_s, tyOk_t, tyOk_l, isi_n, isi_b, isi_i, isi_s, isi_t, isi_l,
  List.map_cons, List.map_nil, List.cons_append, List.nil_append, List.append_nil, List.append_assoc, List.length_cons, List.length_nil, List.getElem?_cons_zero, List.getElem?_cons_succ, List.set_cons_zero, List.set_cons_succ, List.replicate, Nat.reduceAdd, Nat.reduceSub, Nat.zero_add, Nat.reduceLeDiff, Nat.reduceEqDiff,
  if_true, if_false, true_and, and_true, and_self, Bool.not_true, Bool.not_false, Bool.false_eq_true, Bool.and_true, Bool.true_and, Bool.or_false, Bool.false_or, Bool.or_true, Bool.true_or, decide_eq_true_eq, decide_true, decide_false, beq_self_eq_true, beq_iff_eq, String.reduceEq, reduceIte, reduceCtorEq])
local macro_rules | `(tactic| walk_at "dw") => `(tactic| simp (config := { failIfUnchanged := false, implicitDefEqProofs := false }) only [↓k_rtNl_q, ↓k_sSetO_q, ↓k_sRetO_q, ↓k_nl_q, ↓k_nls_q, ↓k_nlc_q, ↓k_back_q, ↓k_lend_q, ↓k_put2_q, ↓k_put1_q, ↓k_put_q, ↓e_fnO, ↓e_sSetO, ↓e_sRetO, ↓e_dBor, ↓e_dBorO, ↓e_dBorA, ↓e_dBorT, ↓frz_0u, ↓frz_0t, ↓e_sLend, ↓ownK_o, ↓e_sPutD, ↓e_dD0, ↓inKD_d, ↓notInKD_d, ↓k_for_q, ↓k_sAppend1_q, ↓k_sAppend_q, ↓k_sRetOwn_q, ↓k_sPar2_q, ↓k_sPar_q, ↓k_sPar33_q, ↓k_sPar3_q, ↓k_some_q, ↓k_asI_q, ↓k_asS_q, ↓k_rng1_q, ↓k_one_q, ↓k_rng22_q, ↓k_rng21_q, ↓k_rng2_q, ↓k_two_q, ↓k_non_q, ↓k_no_q, ↓k_sSet_q, ↓k_sAsg_q, ↓k_sAsg2_q, ↓k_sIf_q, ↓k_sDrop_q, ↓k_sOwn_q, ↓k_sFor_q, ↓k_gs_q, ↓k_dOp2_q, ↓k_dOp_q, ↓k_dCh4_q, ↓k_dCh3_q, ↓k_dCh2_q, ↓k_dCh1_q, ↓k_dUn_q, ↓k_dTest_q, ↓k_dAnd_q, ↓k_dOr_q, ↓k_dNot_q, ↓k_dAndV_q, ↓k_dOrV_q, ↓k_dIf_q, ↓k_dCons2_q, ↓k_dCons_q, ↓k_dTup_q, ↓k_dLst_q, ↓k_dCall_q, ↓k_dIsi_q, ↓k_dIsi2_q, ↓k_dSl3_q, ↓k_dSl2_q, ↓k_dSl_q, ↓k_dRev_q, ↓k_s3_q, ↓k_s3a_q, ↓k_s3b_q, ↓k_s3c_q, ↓e_dSl3, ↓sl3_r2, ↓sl3_rl, ↓k_dLc_q, ↓k_dB_q, ↓chB_b, ↓tsB_b, ↓dVar_s, ↓ownL_o, ↓ownD_o, ↓roL_l, ↓e_sAppend, ↓e_sRetOwn, ↓two_2, ↓three_3, ↓e_sPar, ↓e_sPar3, ↓asI_i, ↓e_dPart, ↓asS_l, ↓asS_t, ↓e_iSeq, ↓one_1, ↓e_iRng1D, ↓e_iRng2D, ↓wipeD_n, ↓wipeD_c, ↓frz_0, ↓frz_0v, ↓frz_s, ↓e_fnD, ↓e_sSeq, ↓e_sNext, ↓e_sBreak, ↓e_sCont, ↓e_sSet, ↓e_sAsg, ↓e_sAsg2, ↓e_sIf, ↓e_sRet, ↓e_sRetN, ↓e_sDrop, ↓e_sNever, ↓e_sOwn, ↓e_sFrz, ↓e_sFor, ↓e_gN, ↓e_gT_t, ↓e_gsNil_n, ↓e_gsCons_c, ↓e_dVar_0, ↓e_dVar_0t, ↓e_dC, ↓e_dOp, ↓e_dChain, ↓e_dUn, ↓e_dTest, ↓e_dAnd, ↓e_dOr, ↓e_dNot, ↓e_dAndV, ↓e_dOrV, ↓e_dIf, ↓e_dNil, ↓e_dCons, ↓e_dTup, ↓e_dLst, ↓e_dCall, ↓e_dB, ↓e_dIsi, ↓e_dIsi2, ↓e_dSl, ↓e_dRev, ↓e_dNo, ↓e_dYes, ↓e_dLc,
  ↓addD_ii, ↓addD_tt, ↓addD_ll, ↓subD_ii, ↓mulD_ii, ↓fdivD_ii, ↓modD_ii, ↓powD_10_9, ↓powD_10_6, ↓ltA_ii, ↓leA_ii, ↓gtA_ii, ↓geA_ii, ↓ltA_t2, ↓leA_t2, ↓gtA_t2, ↓geA_t2, ↓max2A_ii, ↓min2A_ii, ↓slh4, ↓slt4', ↓max2A_c, ↓min2A_c, ↓revD_l, ↓isNon_n, ↓isNon_t, ↓isNon_l, ↓notNon_n, ↓notNon_t, ↓isBD_bb, ↓negD_i, ↓notD_b, ↓absD_i, ↓intC_i, ↓intC_b, ↓lenD_l, ↓lenD_t, ↓listD_l, ↓listD_t, ↓tupleD_l, ↓tupleD_t, ↓allD_l, ↓anyD_l, ↓ixT0, ↓ixT1, ↓ixT2, ↓ixT3, ↓ixL0, ↓ixL1, ↓ixL2, ↓ixL3, ↓slD_l,
  eqD, neD,  sl0, sl1, sl2, sl3, sl4, sl5, sl6, sl7, sl8, sl9, sl10, sl11, sl12, slt0, slt1, slt2, slt3, slt4, slt5, slt6, slt7, slt8, slt9, slt10, slt11, slt12, lay_i, lay_b, lay_n, lay_t0, lay_l0, lay_t2, lay_t4, eqb_ii, eqb_bb, eqb_ss, eqb_nn, eqb_tt, eqb_ll, eqbs_nn, eqbs_cc, eqbs_nc, eqbs_cn, tag_n, tag_c, tagS_v, tagS_u, tagS_o, tagS_t, back_n, back_c, backS_vt, backS_tt, backS_ot, backS_ut, backS_u, backS_v, backS_l, backS_d, ownS_l, ownS_d, ownS_t, ownS_i, ownS_n, noLst_l, noLst_i, noLst_b, noLst_s, noLst_n, noLst_d, noLst_t, noLsts_n, noLsts_c, nlc_l, nlc_d, nlc_i, nlc_b, nlc_t, tyOk_n, tyOk_b, tyOk_i, tyOk_s, tyOk_t, tyOk_l, isi_n, isi_b, isi_i, isi_s, isi_t, isi_l,
  List.map_cons, List.map_nil, List.cons_append, List.nil_append, List.append_nil, List.append_assoc, List.length_cons, List.length_nil, List.getElem?_cons_zero, List.getElem?_cons_succ, List.set_cons_zero, List.set_cons_succ, List.replicate, Nat.reduceAdd, Nat.reduceSub, Nat.zero_add, Nat.reduceLeDiff, Nat.reduceEqDiff,
  if_true, if_false, true_and, and_true, and_self, Bool.not_true, Bool.not_false, Bool.false_eq_true, Bool.and_true, Bool.true_and, Bool.or_false, Bool.false_or, Bool.or_true, Bool.true_or, decide_eq_true_eq, decide_true, decide_false, beq_self_eq_true, beq_iff_eq, String.reduceEq, reduceIte, reduceCtorEq])
end DV

namespace DV
open PySem PySem.Spec PyProof.Rows L2
/-! ### dicts as data, plain laws -/
theorem nk_inj : ∀ {d e : D}, d.kin = true → e.kin = true → d.nk = e.nk → d = e
  | .int i, .int j, _, _, h => by simp only [D.nk, NestedKey.num.injEq] at h; rw [h]
  | .int i, .tup es, _, _, h => by simp [D.nk] at h
  | .tup ds, .int j, _, _, h => by simp [D.nk] at h
  | .tup ds, .tup es, h, g, e => by
    simp only [D.kin] at h g
    simp only [D.nk, NestedKey.tup.injEq] at e
    have key : ∀ (ds es : List D), (∀ x ∈ ds, ∀ y : D, x.kin = true → y.kin = true → x.nk = y.nk → x = y) → D.kins ds = true → D.kins es = true → D.nks ds = D.nks es → ds = es := by
      intro ds
      induction ds with
      | nil => intro es _ _ _ e; cases es <;> simp [D.nks] at e ⊢
      | cons d ds ih =>
        intro es hx h g e
        cases es with
        | nil => simp [D.nks] at e
        | cons y es =>
          simp only [D.nks, List.cons.injEq] at e
          simp only [D.kins, Bool.and_eq_true] at h g
          rw [hx d List.mem_cons_self y h.1 g.1 e.1, ih es (fun x hx' => hx x (List.mem_cons_of_mem _ hx')) h.2 g.2 e.2]
    rw [key ds es (fun x _ y a b c => nk_inj a b c) h g e]
  | .non, _, h, _, _ => by simp [D.kin] at h
  | .bl _, _, h, _, _ => by simp [D.kin] at h
  | .str _, _, h, _, _ => by simp [D.kin] at h
  | .lst _, _, h, _, _ => by simp [D.kin] at h
  | .dic _, _, h, _, _ => by simp [D.kin] at h
  | .bag, _, h, _, _ => by simp [D.kin] at h
  | .scr, _, h, _, _ => by simp [D.kin] at h
  | .int _, .non, _, h, _ => by simp [D.kin] at h
  | .int _, .bl _, _, h, _ => by simp [D.kin] at h
  | .int _, .str _, _, h, _ => by simp [D.kin] at h
  | .int _, .lst _, _, h, _ => by simp [D.kin] at h
  | .int _, .dic _, _, h, _ => by simp [D.kin] at h
  | .int _, .bag, _, h, _ => by simp [D.kin] at h
  | .int _, .scr, _, h, _ => by simp [D.kin] at h
  | .tup _, .non, _, h, _ => by simp [D.kin] at h
  | .tup _, .bl _, _, h, _ => by simp [D.kin] at h
  | .tup _, .str _, _, h, _ => by simp [D.kin] at h
  | .tup _, .lst _, _, h, _ => by simp [D.kin] at h
  | .tup _, .dic _, _, h, _ => by simp [D.kin] at h
  | .tup _, .bag, _, h, _ => by simp [D.kin] at h
  | .tup _, .scr, _, h, _ => by simp [D.kin] at h
theorem kin_eq {d e : D} (h : d.kin = true) (g : e.kin = true) : (D.eqb d e = true ↔ d = e) := by
  rw [eqb_nk h g, decide_eq_true_eq]
  exact ⟨nk_inj h g, fun z => by rw [z]⟩
/-- keys -/
def Ky (d : D) : Prop := d.flt = true ∨ d.kok = true
theorem Ky.eq {d e : D} (h : Ky d) (g : Ky e) : (D.eqb d e = true ↔ d = e) := by
  rcases h with h | h <;> rcases g with g | g
  · obtain ⟨k, rfl⟩ := flt_key h
    obtain ⟨j, rfl⟩ := flt_key g
    rw [eqb_key, decide_eq_true_eq]
    exact ⟨fun z => by rw [z], fun z => by rcases k with k | k <;> rcases j with j | j <;> first | (injection z with z; rw [z]) | cases z⟩
  · refine ⟨fun z => ?_, fun z => by rw [z, kok_flt g] at h; cases h⟩
    cases d <;> first | (simp [D.flt] at h; done) | skip
    all_goals cases e <;> first | (simp [D.kok] at g; done) | (simp [D.eqb] at z; done)
  · refine ⟨fun z => ?_, fun z => by rw [← z, kok_flt h] at g; cases g⟩
    cases e <;> first | (simp [D.flt] at g; done) | skip
    all_goals cases d <;> first | (simp [D.kok] at h; done) | (simp [D.eqb] at z; done)
  · exact kin_eq (kok_kin h) (kok_kin g)
theorem dgetD_pos {p : D × D} {r : List (D × D)} {k : D} (e : D.eqb p.1 k = true) : dgetD (p :: r) k = some p.2 := by simp [dgetD, e]
theorem dgetD_neg {p : D × D} {r : List (D × D)} {k : D} (e : ¬D.eqb p.1 k = true) : dgetD (p :: r) k = dgetD r k := by simp [dgetD, e]
/-! spots as keys -/
theorem kok_tp (s : Sp2) : (tp s).kok = true := by simp [tp, D.kok, D.kins, D.kin, D.nks, D.nk, NestedKey.depth, NestedKey.depthAll]
/-! a stroke turned about -/
theorem ahead_r {c a m m' : Int} (h : Ahead (a - c) m m') : Ahead (c - a) m' m := by unfold Ahead at *; omega
theorem SqOk.rev {a b c d : Int} {L : List Sp2} (S : SqOk a b c d L) : SqOk c d a b L.reverse where
  mem := fun s => by rw [List.mem_reverse, S.mem]; exact goesP_r.symm
  ord := by
    rw [List.pairwise_reverse]
    exact S.ord.imp fun h => ⟨ahead_r h.1, ahead_r h.2.1, fun z => h.2.2 ⟨z.1.symm, z.2.symm⟩⟩
  one := fun i s t h1 h2 => by
    have hi : i + 1 < L.length := by have := (List.getElem?_eq_some_iff.mp h2).1; simpa using this
    rw [List.getElem?_reverse (by omega)] at h1
    rw [List.getElem?_reverse (by omega)] at h2
    have := S.one (L.length - 1 - (i + 1)) t s h2 (by rw [← h1]; congr 1; omega)
    unfold Near1 at *
    omega
  hd := by rw [List.head?_reverse]; exact S.lst
  lst := by rw [List.getLast?_reverse]; exact S.hd
  few := by rw [List.length_reverse]; exact S.few
end DV

namespace DV
open PySem PySem.Spec PyProof.Rows L2
/-! ### closures of DxA .. DxG -/
def k_zipL (Q : D → Prop) (ds : List D) : Prop := match ds with
  | [.lst xs, .lst ys] => Q (.lst (zipD xs ys))
  | _ => False
theorem k_zipL_q {Q : D → Prop} {xs ys : List D} : k_zipL Q [.lst xs, .lst ys] = Q (.lst (zipD xs ys)) := rfl
theorem e_dZipL {t : DA} {ρ : List Slot} {Q : D → Prop} : dZipL t ρ Q = t ρ (k_zipL Q) := rfl
def k_zip (Q : List D → Prop) (ds : List D) : Prop := match ds with
  | [.lst xs, .lst ys] => Q (zipD xs ys)
  | _ => False
theorem k_zip_q {Q : List D → Prop} {xs ys : List D} : k_zip Q [.lst xs, .lst ys] = Q (zipD xs ys) := rfl
theorem e_iZipD {t : DA} {ρ : List Slot} {Q : List D → Prop} : iZipD t ρ Q = t ρ (k_zip Q) := rfl
def k_enum (Q : List D → Prop) (ds : List D) : Prop := match ds with
  | [.lst xs] => Q (enumD 0 xs)
  | _ => False
theorem k_enum_q {Q : List D → Prop} {xs : List D} : k_enum Q [.lst xs] = Q (enumD 0 xs) := rfl
theorem e_iEnumD {t : DA} {ρ : List Slot} {Q : List D → Prop} : iEnumD t ρ Q = t ρ (k_enum Q) := rfl
def k_keys (Q : List D → Prop) (d : D) : Prop := match d with
  | .dic kvs => (∀ q ∈ kvs, q.1.flt = true) ∧ Q (kvs.map (·.1))
  | _ => False
theorem k_keys_q {Q : List D → Prop} {kvs : List (D × D)} : k_keys Q (.dic kvs) = ((∀ q ∈ kvs, q.1.flt = true) ∧ Q (kvs.map (·.1))) := rfl
theorem e_iKeysD {t : DE} {ρ : List Slot} {Q : List D → Prop} : iKeysD t ρ Q = t ρ (k_keys Q) := rfl
def k_vals (Q : List D → Prop) (d : D) : Prop := match d with
  | .dic kvs => (∀ q ∈ kvs, q.1.flt = true) ∧ Q (kvs.map (·.2))
  | _ => False
theorem k_vals_q {Q : List D → Prop} {kvs : List (D × D)} : k_vals Q (.dic kvs) = ((∀ q ∈ kvs, q.1.flt = true) ∧ Q (kvs.map (·.2))) := rfl
theorem e_iValsD {t : DE} {ρ : List Slot} {Q : List D → Prop} : iValsD t ρ Q = t ρ (k_vals Q) := rfl
def k_items (Q : List D → Prop) (d : D) : Prop := match d with
  | .dic kvs => (∀ q ∈ kvs, q.1.flt = true) ∧ Q (kvs.map tup2)
  | _ => False
theorem k_items_q {Q : List D → Prop} {kvs : List (D × D)} : k_items Q (.dic kvs) = ((∀ q ∈ kvs, q.1.flt = true) ∧ Q (kvs.map tup2)) := rfl
theorem e_iItemsD {t : DE} {ρ : List Slot} {Q : List D → Prop} : iItemsD t ρ Q = t ρ (k_items Q) := rfl
def k_tru (Q : Bool → Prop) (x : D) : Prop := truD x Q
theorem k_tru_q {Q : Bool → Prop} {x : D} : k_tru Q x = truD x Q := rfl
theorem e_dTru {t : DE} {ρ : List Slot} {Q : Bool → Prop} : dTru t ρ Q = t ρ (k_tru Q) := rfl
theorem truD_l {ds : List D} {Q : Bool → Prop} : truD (.lst ds) Q = Q (!ds.isEmpty) := rfl
theorem truD_t {ds : List D} {Q : Bool → Prop} : truD (.tup ds) Q = Q (!ds.isEmpty) := rfl
theorem truD_b {b : Bool} {Q : Bool → Prop} : truD (.bl b) Q = Q b := rfl
theorem truD_n {Q : Bool → Prop} : truD .non Q = Q false := rfl
def k_rev (i : Nat) (N : DN) (ρ : List Slot) (ds : List D) : Prop := N.nx (ρ.set i (.own (.lst ds.reverse)))
theorem k_rev_q {i : Nat} {N : DN} {ρ : List Slot} {ds : List D} : k_rev i N ρ ds = N.nx (ρ.set i (.own (.lst ds.reverse))) := rfl
theorem e_sRev {i : Nat} {N : DN} {ρ : List Slot} : sRev i N ρ = ownL ρ[i]? (k_rev i N ρ) := rfl
def k_clr (i : Nat) (N : DN) (ρ : List Slot) (ds : List D) : Prop := N.nx (ρ.set i (.own (.lst [])))
theorem k_clr_q {i : Nat} {N : DN} {ρ : List Slot} {ds : List D} : k_clr i N ρ ds = N.nx (ρ.set i (.own (.lst []))) := rfl
theorem e_sClr {i : Nat} {N : DN} {ρ : List Slot} : sClr i N ρ = ownL ρ[i]? (k_clr i N ρ) := rfl
def k_ins3 (i : Nat) (N : DN) (ρ : List Slot) (ds : List D) (j : Int) (d : D) : Prop := (0 ≤ j ∧ j < 2 ^ 63 ∧ ds.length < sizeLine) ∧ N.nx (ρ.set i (.own (.lst (ds.take j.toNat ++ [d] ++ ds.drop j.toNat))))
theorem k_ins3_q {i : Nat} {N : DN} {ρ : List Slot} {ds : List D} {j : Int} {d : D} : k_ins3 i N ρ ds j d = ((0 ≤ j ∧ j < 2 ^ 63 ∧ ds.length < sizeLine) ∧ N.nx (ρ.set i (.own (.lst (ds.take j.toNat ++ [d] ++ ds.drop j.toNat))))) := rfl
def k_ins2 (i : Nat) (tv : DE) (N : DN) (ρ : List Slot) (ds : List D) (k : D) : Prop := match k with
  | .int j => tv ρ (k_ins3 i N ρ ds j)
  | _ => False
theorem k_ins2_q {i : Nat} {tv : DE} {N : DN} {ρ : List Slot} {ds : List D} {j : Int} : k_ins2 i tv N ρ ds (.int j) = tv ρ (k_ins3 i N ρ ds j) := rfl
def k_ins (i : Nat) (ti tv : DE) (N : DN) (ρ : List Slot) (ds : List D) : Prop := ti ρ (k_ins2 i tv N ρ ds)
theorem k_ins_q {i : Nat} {ti tv : DE} {N : DN} {ρ : List Slot} {ds : List D} : k_ins i ti tv N ρ ds = ti ρ (k_ins2 i tv N ρ ds) := rfl
theorem e_sIns {i : Nat} {ti tv : DE} {N : DN} {ρ : List Slot} : sIns i ti tv N ρ = ownL ρ[i]? (k_ins i ti tv N ρ) := rfl
def k_move (i j : Nat) (N : DN) (ρ : List Slot) (d : D) : Prop := i ≠ j ∧ N.nx ((ρ.set j .un).set i (.own d))
theorem k_move_q {i j : Nat} {N : DN} {ρ : List Slot} {d : D} : k_move i j N ρ d = (i ≠ j ∧ N.nx ((ρ.set j .un).set i (.own d))) := rfl
theorem e_sMove {i j : Nat} {N : DN} {ρ : List Slot} : sMove i j N ρ = ownD ρ[j]? (k_move i j N ρ) := rfl
def k_lc2 (g : DG) (tt : DT) (it1 : DI) (g1 : DG) (tt1 : DT) (te : DE) (vs1 : List Nat) (ρ : List Slot) (Q : D → Prop) (ds : List D) : Prop := lc2D g tt it1 g1 tt1 te vs1 ρ ds [] Q
theorem k_lc2_q {g : DG} {tt : DT} {it1 : DI} {g1 : DG} {tt1 : DT} {te : DE} {vs1 : List Nat} {ρ : List Slot} {Q : D → Prop} {ds : List D} : k_lc2 g tt it1 g1 tt1 te vs1 ρ Q ds = lc2D g tt it1 g1 tt1 te vs1 ρ ds [] Q := rfl
theorem e_dLc2 {it : DI} {g : DG} {tt : DT} {it1 : DI} {g1 : DG} {tt1 : DT} {te : DE} {vs vs1 : List Nat} {ρ : List Slot} {Q : D → Prop} : dLc2 it g tt it1 g1 tt1 te vs vs1 ρ Q = it ρ (k_lc2 g tt it1 g1 tt1 te vs1 (wipeD ρ vs) Q) := rfl
theorem inTD_t {x : D} {ds : List D} {Q : D → Prop} : inTD x (.tup ds) Q = (x.lay = true ∧ (D.tup ds).lay = true ∧ Q (.bl (ds.any fun z => D.eqb z x))) := rfl
theorem notBD_bb {a b : Bool} {Q : D → Prop} : notBD (.bl a) (.bl b) Q = Q (.bl (!decide (a = b))) := rfl
theorem dictK_d {kvs : List (D × D)} {Q : D → Prop} : dictK [.dic kvs] Q = ((∀ q ∈ kvs, q.1.flt = true) ∧ Q (.dic kvs)) := rfl
theorem sortedC_l {xs : List D} {Q : D → Prop} : sortedC [.lst xs] Q = (SrtD xs ∧ ∀ ys, SortTo xs ys → Q (.lst ys)) := rfl
theorem sortedC_d {kvs : List (D × D)} {Q : D → Prop} : sortedC [.dic kvs] Q = (SrtD (kvs.map (·.1)) ∧ ∀ ys, SortTo (kvs.map (·.1)) ys → Q (.lst ys)) := rfl
theorem fgs_n : fgs [] = [] := rfl
theorem fgs_c {s : Slot} {ρ : List Slot} : fgs (s :: ρ) = s.fg :: fgs ρ := rfl
theorem fg_v {d : D} : Slot.fg (.v d) = .v d := rfl
theorem fg_t {u : V} {d : D} : Slot.fg (.tg u d) = .tg u d := rfl
theorem fg_u : Slot.fg .un = .un := rfl
theorem fg_o {d : D} : Slot.fg (.own d) = .un := rfl
/-! ### what may be sorted -/
theorem srt_strs {xs : List Str} : SrtD (xs.map D.str) := by
  refine ⟨⟨⟨1, fun k hk => ?_⟩, fun k hk j hj => ?_, fun k hk => ?_⟩, fun d hd => ?_⟩
  · obtain ⟨d, hd, rfl⟩ := List.mem_map.mp hk
    obtain ⟨x, _, rfl⟩ := List.mem_map.mp hd
    rfl
  · obtain ⟨d, hd, rfl⟩ := List.mem_map.mp hk
    obtain ⟨x, _, rfl⟩ := List.mem_map.mp hd
    obtain ⟨e, he, rfl⟩ := List.mem_map.mp hj
    obtain ⟨y, _, rfl⟩ := List.mem_map.mp he
    simp [D.nt, LOk]
  · obtain ⟨d, hd, rfl⟩ := List.mem_map.mp hk
    obtain ⟨x, _, rfl⟩ := List.mem_map.mp hd
    simp [D.nt, NestedKey.depth]
  · obtain ⟨x, _, rfl⟩ := List.mem_map.mp hd
    rfl
theorem lok_pair {a b c d : Int} : LOk (tp (a, b)).nt (tp (c, d)).nt := by
  simp only [tp, D.nt, D.nts, LOk, LOks]
  exact ⟨fun _ => ⟨fun _ => True.intro, fun _ => True.intro⟩, fun _ => True.intro⟩
theorem srt_tps {L : List Sp2} : SrtD (L.map tp) := by
  refine ⟨⟨⟨2, fun k hk => ?_⟩, fun k hk j hj => ?_, fun k hk => ?_⟩, fun d hd => ?_⟩
  · obtain ⟨d, hd, rfl⟩ := List.mem_map.mp hk
    obtain ⟨x, _, rfl⟩ := List.mem_map.mp hd
    simp [tp, D.nt, D.nts, kindN]
  · obtain ⟨d, hd, rfl⟩ := List.mem_map.mp hk
    obtain ⟨x, _, rfl⟩ := List.mem_map.mp hd
    obtain ⟨e, he, rfl⟩ := List.mem_map.mp hj
    obtain ⟨y, _, rfl⟩ := List.mem_map.mp he
    exact lok_pair
  · obtain ⟨d, hd, rfl⟩ := List.mem_map.mp hk
    obtain ⟨x, _, rfl⟩ := List.mem_map.mp hd
    simp [tp, D.nt, D.nts, NestedKey.depth, NestedKey.depthAll]
  · obtain ⟨x, _, rfl⟩ := List.mem_map.mp hd
    simp [tp, D.srt, D.srts]
end DV

namespace DV
open PySem PySem.Spec PyProof.Rows L2
local macro_rules | `(tactic| walk_at "dv") => `(tactic| simp (config := { failIfUnchanged := false, implicitDefEqProofs := false }) only [↓k_zipL_q, ↓e_dZipL, ↓k_zip_q, ↓e_iZipD, ↓k_enum_q, ↓e_iEnumD, ↓k_keys_q, ↓e_iKeysD, ↓k_vals_q, ↓e_iValsD, ↓k_items_q, ↓e_iItemsD, ↓k_tru_q, ↓e_dTru, ↓truD_l, ↓truD_t, ↓truD_b, ↓truD_n, ↓k_rev_q, ↓e_sRev, ↓k_clr_q, ↓e_sClr, ↓k_ins3_q, ↓k_ins2_q, ↓k_ins_q, ↓e_sIns, ↓k_move_q, ↓e_sMove, ↓k_lc2_q, ↓e_dLc2, ↓inTD_t, ↓notBD_bb, ↓dictK_d, fgs_n, fgs_c, fg_v, fg_t, fg_u, fg_o, ↓k_rtNl_q, ↓k_sSetO_q, ↓k_sRetO_q, ↓k_nl_q, ↓k_nls_q, ↓k_nlc_q, ↓k_back_q, ↓k_lend_q, ↓k_put2_q, ↓k_put1_q, ↓k_put_q, ↓e_fnO, ↓e_sSetO, ↓e_sRetO, ↓e_dBor, ↓e_dBorO, ↓e_dBorA, ↓e_dBorT, ↓frz_0u, ↓frz_0t, ↓e_sLend, ↓ownK_o, ↓e_sPutD, ↓e_dD0, ↓inKD_d, ↓notInKD_d, ↓k_for_q, ↓e_for_n, ↓e_for_c, ↓k_sAppend1_q, ↓k_sAppend_q, ↓k_sRetOwn_q, ↓k_sPar2_q, ↓k_sPar_q, ↓k_sPar33_q, ↓k_sPar3_q, ↓k_some_q, ↓k_asI_q, ↓k_asS_q, ↓k_rng1_q, ↓k_one_q, ↓k_rng22_q, ↓k_rng21_q, ↓k_rng2_q, ↓k_two_q, ↓k_non_q, ↓k_no_q, ↓k_sSet_q, ↓k_sAsg_q, ↓k_sAsg2_q, ↓k_sIf_q, ↓k_sDrop_q, ↓k_sOwn_q, ↓k_sFor_q, ↓k_gs_q, ↓k_dOp2_q, ↓k_dOp_q, ↓k_dCh4_q, ↓k_dCh3_q, ↓k_dCh2_q, ↓k_dCh1_q, ↓k_dUn_q, ↓k_dTest_q, ↓k_dAnd_q, ↓k_dOr_q, ↓k_dNot_q, ↓k_dAndV_q, ↓k_dOrV_q, ↓k_dIf_q, ↓k_dCons2_q, ↓k_dCons_q, ↓k_dTup_q, ↓k_dLst_q, ↓k_dCall_q, ↓k_dIsi_q, ↓k_dIsi2_q, ↓k_dSl3_q, ↓k_dSl2_q, ↓k_dSl_q, ↓k_dRev_q, ↓k_s3_q, ↓k_s3a_q, ↓k_s3b_q, ↓k_s3c_q, ↓e_dSl3, ↓sl3_r2, ↓sl3_rl, ↓k_dLc_q, ↓k_dB_q, ↓chB_b, ↓tsB_b, ↓dVar_s, ↓ownL_o, ↓ownD_o, ↓roL_l, ↓e_sAppend, ↓e_sRetOwn, ↓two_2, ↓three_3, ↓e_sPar, ↓e_sPar3, ↓asI_i, ↓e_dPart, ↓asS_l, ↓asS_t, ↓e_iSeq, ↓one_1, ↓e_iRng1D, ↓e_iRng2D, ↓wipeD_n, ↓wipeD_c, ↓frz_0, ↓frz_0v, ↓frz_s, ↓e_fnD, ↓e_sSeq, ↓e_sNext, ↓e_sBreak, ↓e_sCont, ↓e_sSet, ↓e_sAsg, ↓e_sAsg2, ↓e_sIf, ↓e_sRet, ↓e_sRetN, ↓e_sDrop, ↓e_sNever, ↓e_sOwn, ↓e_sFrz, ↓e_sFor, ↓e_gN, ↓e_gT_t, ↓e_gsNil_n, ↓e_gsCons_c, ↓e_dVar_0, ↓e_dVar_0t, ↓e_dC, ↓e_dOp, ↓e_dChain, ↓e_dUn, ↓e_dTest, ↓e_dAnd, ↓e_dOr, ↓e_dNot, ↓e_dAndV, ↓e_dOrV, ↓e_dIf, ↓e_dNil, ↓e_dCons, ↓e_dTup, ↓e_dLst, ↓e_dCall, ↓e_dB, ↓e_dIsi, ↓e_dIsi2, ↓e_dSl, ↓e_dRev, ↓e_dNo, ↓e_dYes, ↓e_dLc,
  ↓addD_ii, ↓addD_tt, ↓addD_ll, ↓subD_ii, ↓mulD_ii, ↓fdivD_ii, ↓modD_ii, ↓powD_10_9, ↓powD_10_6, ↓ltA_ii, ↓leA_ii, ↓gtA_ii, ↓geA_ii, ↓ltA_t2, ↓leA_t2, ↓gtA_t2, ↓geA_t2, ↓max2A_ii, ↓min2A_ii, ↓slh4, ↓slt4', ↓max2A_c, ↓min2A_c, ↓revD_l, ↓isNon_n, ↓isNon_t, ↓isNon_l, ↓notNon_n, ↓notNon_t, ↓isBD_bb, ↓negD_i, ↓notD_b, ↓absD_i, ↓intC_i, ↓intC_b, ↓lenD_l, ↓lenD_t, ↓listD_l, ↓listD_t, ↓tupleD_l, ↓tupleD_t, ↓allD_l, ↓anyD_l, ↓ixT0, ↓ixT1, ↓ixT2, ↓ixT3, ↓ixL0, ↓ixL1, ↓ixL2, ↓ixL3, ↓slD_l,
  eqD, neD,  sl0, sl1, sl2, sl3, sl4, sl5, sl6, sl7, sl8, sl9, sl10, sl11, sl12, slt0, slt1, slt2, slt3, slt4, slt5, slt6, slt7, slt8, slt9, slt10, slt11, slt12, lay_i, lay_b, lay_n, lay_t0, lay_l0, lay_t2, lay_t4, eqb_ii, eqb_bb, eqb_ss, eqb_nn, eqb_tt, eqb_ll, eqbs_nn, eqbs_cc, eqbs_nc, eqbs_cn, tag_n, tag_c, tagS_v, tagS_u, tagS_o, tagS_t, back_n, back_c, backS_vt, backS_tt, backS_ot, backS_ut, backS_u, backS_v, backS_l, backS_d, ownS_l, ownS_d, ownS_t, ownS_i, ownS_n, noLst_l, noLst_i, noLst_b, noLst_s, noLst_n, noLst_d, noLst_t, noLsts_n, noLsts_c, nlc_l, nlc_d, nlc_i, nlc_b, nlc_t, tyOk_n, tyOk_b, tyOk_i, tyOk_s, tyOk_t, tyOk_l, isi_n, isi_b, isi_i, isi_s, isi_t, isi_l,
  List.map_cons, List.map_nil, List.cons_append, List.nil_append, List.append_nil, List.append_assoc, List.length_cons, List.length_nil, List.getElem?_cons_zero, List.getElem?_cons_succ, List.set_cons_zero, List.set_cons_succ, List.replicate, Nat.reduceAdd, Nat.reduceSub, Nat.zero_add, Nat.reduceLeDiff, Nat.reduceEqDiff,
  if_true, if_false, true_and, and_true, and_self, Bool.not_true, Bool.not_false, Bool.false_eq_true, Bool.and_true, Bool.true_and, Bool.or_false, Bool.false_or, Bool.or_true, Bool.true_or, decide_eq_true_eq, decide_true, decide_false, beq_self_eq_true, beq_iff_eq, String.reduceEq, reduceIte, reduceCtorEq])
local macro_rules | `(tactic| walk_at "dw") => `(tactic| simp (config := { failIfUnchanged := false, implicitDefEqProofs := false }) only [↓k_zipL_q, ↓e_dZipL, ↓k_zip_q, ↓e_iZipD, ↓k_enum_q, ↓e_iEnumD, ↓k_keys_q, ↓e_iKeysD, ↓k_vals_q, ↓e_iValsD, ↓k_items_q, ↓e_iItemsD, ↓k_tru_q, ↓e_dTru, ↓truD_l, ↓truD_t, ↓truD_b, ↓truD_n, ↓k_rev_q, ↓e_sRev, ↓k_clr_q, ↓e_sClr, ↓k_ins3_q, ↓k_ins2_q, ↓k_ins_q, ↓e_sIns, ↓k_move_q, ↓e_sMove, ↓k_lc2_q, ↓e_dLc2, ↓inTD_t, ↓notBD_bb, ↓dictK_d, fgs_n, fgs_c, fg_v, fg_t, fg_u, fg_o, ↓k_rtNl_q, ↓k_sSetO_q, ↓k_sRetO_q, ↓k_nl_q, ↓k_nls_q, ↓k_nlc_q, ↓k_back_q, ↓k_lend_q, ↓k_put2_q, ↓k_put1_q, ↓k_put_q, ↓e_fnO, ↓e_sSetO, ↓e_sRetO, ↓e_dBor, ↓e_dBorO, ↓e_dBorA, ↓e_dBorT, ↓frz_0u, ↓frz_0t, ↓e_sLend, ↓ownK_o, ↓e_sPutD, ↓e_dD0, ↓inKD_d, ↓notInKD_d, ↓k_for_q, ↓k_sAppend1_q, ↓k_sAppend_q, ↓k_sRetOwn_q, ↓k_sPar2_q, ↓k_sPar_q, ↓k_sPar33_q, ↓k_sPar3_q, ↓k_some_q, ↓k_asI_q, ↓k_asS_q, ↓k_rng1_q, ↓k_one_q, ↓k_rng22_q, ↓k_rng21_q, ↓k_rng2_q, ↓k_two_q, ↓k_non_q, ↓k_no_q, ↓k_sSet_q, ↓k_sAsg_q, ↓k_sAsg2_q, ↓k_sIf_q, ↓k_sDrop_q, ↓k_sOwn_q, ↓k_sFor_q, ↓k_gs_q, ↓k_dOp2_q, ↓k_dOp_q, ↓k_dCh4_q, ↓k_dCh3_q, ↓k_dCh2_q, ↓k_dCh1_q, ↓k_dUn_q, ↓k_dTest_q, ↓k_dAnd_q, ↓k_dOr_q, ↓k_dNot_q, ↓k_dAndV_q, ↓k_dOrV_q, ↓k_dIf_q, ↓k_dCons2_q, ↓k_dCons_q, ↓k_dTup_q, ↓k_dLst_q, ↓k_dCall_q, ↓k_dIsi_q, ↓k_dIsi2_q, ↓k_dSl3_q, ↓k_dSl2_q, ↓k_dSl_q, ↓k_dRev_q, ↓k_s3_q, ↓k_s3a_q, ↓k_s3b_q, ↓k_s3c_q, ↓e_dSl3, ↓sl3_r2, ↓sl3_rl, ↓k_dLc_q, ↓k_dB_q, ↓chB_b, ↓tsB_b, ↓dVar_s, ↓ownL_o, ↓ownD_o, ↓roL_l, ↓e_sAppend, ↓e_sRetOwn, ↓two_2, ↓three_3, ↓e_sPar, ↓e_sPar3, ↓asI_i, ↓e_dPart, ↓asS_l, ↓asS_t, ↓e_iSeq, ↓one_1, ↓e_iRng1D, ↓e_iRng2D, ↓wipeD_n, ↓wipeD_c, ↓frz_0, ↓frz_0v, ↓frz_s, ↓e_fnD, ↓e_sSeq, ↓e_sNext, ↓e_sBreak, ↓e_sCont, ↓e_sSet, ↓e_sAsg, ↓e_sAsg2, ↓e_sIf, ↓e_sRet, ↓e_sRetN, ↓e_sDrop, ↓e_sNever, ↓e_sOwn, ↓e_sFrz, ↓e_sFor, ↓e_gN, ↓e_gT_t, ↓e_gsNil_n, ↓e_gsCons_c, ↓e_dVar_0, ↓e_dVar_0t, ↓e_dC, ↓e_dOp, ↓e_dChain, ↓e_dUn, ↓e_dTest, ↓e_dAnd, ↓e_dOr, ↓e_dNot, ↓e_dAndV, ↓e_dOrV, ↓e_dIf, ↓e_dNil, ↓e_dCons, ↓e_dTup, ↓e_dLst, ↓e_dCall, ↓e_dB, ↓e_dIsi, ↓e_dIsi2, ↓e_dSl, ↓e_dRev, ↓e_dNo, ↓e_dYes, ↓e_dLc,
  ↓addD_ii, ↓addD_tt, ↓addD_ll, ↓subD_ii, ↓mulD_ii, ↓fdivD_ii, ↓modD_ii, ↓powD_10_9, ↓powD_10_6, ↓ltA_ii, ↓leA_ii, ↓gtA_ii, ↓geA_ii, ↓ltA_t2, ↓leA_t2, ↓gtA_t2, ↓geA_t2, ↓max2A_ii, ↓min2A_ii, ↓slh4, ↓slt4', ↓max2A_c, ↓min2A_c, ↓revD_l, ↓isNon_n, ↓isNon_t, ↓isNon_l, ↓notNon_n, ↓notNon_t, ↓isBD_bb, ↓negD_i, ↓notD_b, ↓absD_i, ↓intC_i, ↓intC_b, ↓lenD_l, ↓lenD_t, ↓listD_l, ↓listD_t, ↓tupleD_l, ↓tupleD_t, ↓allD_l, ↓anyD_l, ↓ixT0, ↓ixT1, ↓ixT2, ↓ixT3, ↓ixL0, ↓ixL1, ↓ixL2, ↓ixL3, ↓slD_l,
  eqD, neD,  sl0, sl1, sl2, sl3, sl4, sl5, sl6, sl7, sl8, sl9, sl10, sl11, sl12, slt0, slt1, slt2, slt3, slt4, slt5, slt6, slt7, slt8, slt9, slt10, slt11, slt12, lay_i, lay_b, lay_n, lay_t0, lay_l0, lay_t2, lay_t4, eqb_ii, eqb_bb, eqb_ss, eqb_nn, eqb_tt, eqb_ll, eqbs_nn, eqbs_cc, eqbs_nc, eqbs_cn, tag_n, tag_c, tagS_v, tagS_u, tagS_o, tagS_t, back_n, back_c, backS_vt, backS_tt, backS_ot, backS_ut, backS_u, backS_v, backS_l, backS_d, ownS_l, ownS_d, ownS_t, ownS_i, ownS_n, noLst_l, noLst_i, noLst_b, noLst_s, noLst_n, noLst_d, noLst_t, noLsts_n, noLsts_c, nlc_l, nlc_d, nlc_i, nlc_b, nlc_t, tyOk_n, tyOk_b, tyOk_i, tyOk_s, tyOk_t, tyOk_l, isi_n, isi_b, isi_i, isi_s, isi_t, isi_l,
  List.map_cons, List.map_nil, List.cons_append, List.nil_append, List.append_nil, List.append_assoc, List.length_cons, List.length_nil, List.getElem?_cons_zero, List.getElem?_cons_succ, List.set_cons_zero, List.set_cons_succ, List.replicate, Nat.reduceAdd, Nat.reduceSub, Nat.zero_add, Nat.reduceLeDiff, Nat.reduceEqDiff,
  if_true, if_false, true_and, and_true, and_self, Bool.not_true, Bool.not_false, Bool.false_eq_true, Bool.and_true, Bool.true_and, Bool.or_false, Bool.false_or, Bool.or_true, Bool.true_or, decide_eq_true_eq, decide_true, decide_false, beq_self_eq_true, beq_iff_eq, String.reduceEq, reduceIte, reduceCtorEq])
theorem forD_cnt {g : DG} {b : DS} {N : DN} (T : Nat) (I : Nat → List Slot → Prop) : ∀ (ds : List D) (k : Nat) (ρ : List Slot), k + ds.length ≤ T → I k ρ →
    (∀ d ∈ ds, ∀ (k : Nat) (ρ : List Slot) (M : DN), k < T → I k ρ → (∀ ρ', I (k + 1) ρ' → M.nx ρ') → (∀ ρ', I (k + 1) ρ' → M.ct ρ') → M.rt = N.rt → M.bk = N.nx → g d ρ fun ρ' => b M ρ') → (∀ ρ, I (k + ds.length) ρ → N.nx ρ) → forD g b N ds ρ
  | [], _, ρ, _, h, _, e => e ρ h
  | d :: ds, k, ρ, hT, h, s, e => by
    have hT' : k + (ds.length + 1) ≤ T := hT
    have e' : ∀ ρ, I (k + 1 + ds.length) ρ → N.nx ρ := fun ρ h => e ρ (by rw [List.length_cons, show k + (ds.length + 1) = k + 1 + ds.length by omega]; exact h)
    exact s d List.mem_cons_self k ρ _ (by omega) h (fun ρ' h' => forD_cnt T I ds (k + 1) ρ' (by omega) h' (fun d hd => s d (List.mem_cons_of_mem _ hd)) e') (fun ρ' h' => forD_cnt T I ds (k + 1) ρ' (by omega) h' (fun d hd => s d (List.mem_cons_of_mem _ hd)) e') rfl rfl
theorem law_posts_ok {Q : D → Prop} {m : Int} (m0 : 2 ≤ m) (m1 : m ≤ 1000) (h : ∀ L : List D, (∀ d ∈ L, StrokeOk d) → (L.length : Int) = m → Q (.lst L)) : c_law_postsO [.bag, .int m] Q := by
  unfold c_law_postsO
  walk_at "dv"
  refine pull_ok (by omega) (by omega) fun f f0 f1 => ?_
  walk_at "dv"
  refine pull_ok (by omega) (by omega) fun u u0 u1 => ?_
  walk_at "dv"
  refine ⟨mulOk (by omega), ?_⟩
  refine pull_ok (by omega) (by omega) fun x x0 x1 => ?_
  walk_at "dv"
  refine pull_ok (by omega) (by omega) fun y y0 y1 => ?_
  walk_at "dv"
  refine ⟨⟨by omega, by omega⟩, ?_⟩
  refine forD_cnt 1000 (fun k ρ => ∃ L s3 s8 s9 s10, ρ = [.v .bag, .v (.int m), .own (.lst L), s3, .v (.int (8 + f)), .v (.int (1 - 2 * u)), .v (.int (x - 40)), .v (.int (y - 32)), s8, s9, s10] ∧ (∀ d ∈ L, StrokeOk d) ∧ L.length = k + 1) _ 0 _ (by rw [rng_len]; omega) ⟨_, _, _, _, _, rfl, ?_, rfl⟩ ?_ ?_
  · intro d hd
    rw [List.mem_singleton] at hd
    subst hd
    exact ⟨_, _, _, _, rfl, by omega, by omega, by omega, by omega, by omega, by omega, by omega, by omega, by omega⟩
  · rintro d hd k ρ M kT ⟨L, s3, s8, s9, s10, rfl, hL, hk⟩ hnx hct hrt hbk
    walk_at "dv"
    refine pull_ok (by omega) (by omega) fun p p0 p1 => ?_
    walk_at "dv"
    refine pull_ok (by omega) (by omega) fun q q0 q1 => ?_
    walk_at "dv"
    refine ⟨mulOk (by omega), ?_⟩
    obtain ⟨v, hv, v0, v1⟩ : ∃ v : Int, (1 - 2 * u) * q = v ∧ -1 ≤ v ∧ v ≤ 1 := by
      refine ⟨_, rfl, ?_⟩
      have hu : u = 0 ∨ u = 1 := by omega
      have hq : q = 0 ∨ q = 1 := by omega
      rcases hu with rfl | rfl <;> rcases hq with rfl | rfl <;> decide
    rw [hv]
    refine pull_ok (by omega) (by omega) fun r r0 r1 => ?_
    refine ix_all r0 (by simpa using r1) fun z hz => ?_
    have step : ∀ t : Int, t = -5 ∨ t = 5 → L.length < sizeLine ∧ M.nx [.v .bag, .v (.int m), .own (.lst (L ++ [.tup [.int (x - 40 + 1 + p), .int (y - 32 + v), .int (x - 40 + 1 + p), .int (y - 32 + v + t)]])), .v d, .v (.int (8 + f)), .v (.int (1 - 2 * u)), .v (.int (x - 40)), .v (.int (y - 32)), .v (.int (y - 32 + v)), .v (.int (x - 40 + 1 + p)), .v (.int q)] := fun t ht => by
      refine ⟨?_, hnx _ ⟨_, _, _, _, _, rfl, fun d hd => ?_, by rw [List.length_append, hk]; rfl⟩⟩
      · rw [hk]
        exact Nat.lt_of_lt_of_le (show k + 1 < 1002 by omega) (by decide)
      · rcases List.mem_append.mp hd with hd | hd
        · exact hL d hd
        · rw [List.mem_singleton] at hd
          subst hd
          exact ⟨_, _, _, _, rfl, by omega, by omega, by omega, by omega, by omega, by omega, by omega, by omega, by omega⟩
    simp only [List.mem_cons, List.not_mem_nil, or_false] at hz
    rcases hz with rfl | rfl
    · walk_at "dv"
      exact step (-5) (.inl rfl)
    · walk_at "dv"
      exact step 5 (.inr rfl)
  · rintro ρ ⟨L, s3, s8, s9, s10, rfl, hL, hk⟩
    walk_at "dv"
    refine h L hL ?_
    rw [hk, rng_len]
    omega
theorem law_strokes_ok {Q : D → Prop} {m : Int} (m0 : 0 ≤ m) (m1 : m ≤ 1000) (h : ∀ L : List D, (∀ d ∈ L, StrokeOk d) → (L.length : Int) = m → Q (.lst L)) : c_law_strokes [.bag, .int m] Q := by
  unfold c_law_strokes
  walk_at "dv"
  refine law_base_ok fun bs hbs => ?_
  walk_at "dv"
  refine law_of_ok (by simp) fun wd hwd => ?_
  obtain ⟨r, rfl, r0, r1⟩ : ∃ r : Int, wd = .int r ∧ 0 ≤ r ∧ r < 1000 := by
    simp only [List.mem_cons, List.not_mem_nil, or_false] at hwd
    rcases hwd with rfl | rfl | rfl | rfl | rfl | rfl
    all_goals exact ⟨_, rfl, by decide, by decide⟩
  walk_at "dv"
  have key : ∀ (L : List D) (bs : D), SpotOk bs → (∀ d ∈ L, StrokeOk d) → (L.length : Int) ≤ m → sWhile (dBorT 2 (dTest (dOp ltA (dB lenD (dCons (dVar 2) dNil)) (dVar 1)))) (sAppend 2 (dBor 2 (dCall c_law_beside [] (dCons (dVar 0) (dCons (dVar 3) (dCons (dVar 4) (dCons (dVar 2) dNil)))))))
      { nx := sRetOwn 2 ⟨k_non Q, Q, k_no, k_no, roL Q⟩, rt := Q, bk := k_no, ct := k_no, ro := roL Q } [.v .bag, .v (.int m), .own (.lst L), .v bs, .v (.int r)] := fun L bs hbs hL hl => by
    obtain ⟨x, y, rfl, _⟩ := hbs
    refine ⟨fun k ρ => ∃ L : List D, ρ = [.v .bag, .v (.int m), .own (.lst L), .v (.tup [.int x, .int y]), .v (.int r)] ∧ (∀ d ∈ L, StrokeOk d) ∧ (L.length : Int) ≤ m ∧ k = (m - L.length).toNat, ⟨_, L, rfl, hL, hl, rfl⟩, ?_⟩
    rintro k ρ ⟨L, rfl, hL, hl, rfl⟩
    walk_at "dv"
    by_cases e : (L.length : Int) < m
    · rw [if_pos e]
      refine law_beside_ok r0 (by omega) (by omega) hL fun d hd => ?_
      walk_at "dv"
      refine ⟨?_, Nat.lt_of_le_of_lt (show L.length ≤ 1000 by omega) (by decide), (m - (L ++ [d]).length).toNat, ?_, L ++ [d], rfl, fun z hz => ?_, ?_, rfl⟩
      · obtain ⟨_, _, _, _, rfl, _⟩ := hd
        rfl
      · rw [List.length_append, List.length_singleton]
        omega
      · rcases List.mem_append.mp hz with hz | hz
        · exact hL z hz
        · rw [List.mem_singleton] at hz
          subst hz
          exact hd
      · rw [List.length_append, List.length_singleton]
        omega
    · rw [if_neg e]
      exact h L hL (by omega)
  by_cases hm : 1 < m
  · rw [if_pos hm]
    refine pull_ok (by omega) (by omega) fun t t0 t1 => ?_
    walk_at "dv"
    by_cases ht : t = 0
    · subst ht
      walk_at "dv"
      refine pull_ok (by omega) (by omega) fun n n0 n1 => ?_
      walk_at "dv"
      refine law_posts_ok (by omega) (by omega) fun L hL hl => ?_
      walk_at "dv"
      cases L with
      | nil =>
        simp only [List.length_nil] at hl
        omega
      | cons d L =>
        obtain ⟨a, b, c, e, rfl, h1, h2, h3, h4, _⟩ := hL d List.mem_cons_self
        refine ix_nat (i := 0) (by simp) ?_
        rw [List.getElem_cons_zero]
        walk_at "dv"
        exact key _ _ ⟨_, _, rfl, h1, h2, h3, h4⟩ hL (by omega)
    · rw [if_neg ht]
      exact key [] _ hbs (fun _ z => by cases z) (by simpa using m0)
  · rw [if_neg hm]
    exact key [] _ hbs (fun _ z => by cases z) (by simpa using m0)
/-- a heap: names that are unlike, each with its stroke -/
structure HeapP (P : List (Str × D)) : Prop where
  nd : (P.map (·.1)).Nodup
  st : ∀ p ∈ P, StrokeOk p.2
  few : P.length ≤ 32
  ok : ∀ p ∈ P, PyData.strOk p.1 = true
def hpD (P : List (Str × D)) : List (D × D) := P.map fun p => (D.str p.1, p.2)
theorem eqb_str {x y : Str} : D.eqb (.str x) (.str y) = decide (x = y) := by simp [D.eqb]; rfl
theorem hp_get {P : List (Str × D)} (nd : (P.map (·.1)).Nodup) {n : Str} {s : D} (h : (n, s) ∈ P) : dgetD (hpD P) (.str n) = some s := by
  induction P with
  | nil => cases h
  | cons p P ih =>
    simp only [List.map_cons, List.nodup_cons] at nd
    rcases List.mem_cons.mp h with e | e
    · subst e
      exact dgetD_pos (by rw [eqb_str]; simp)
    · have ne : p.1 ≠ n := fun z => nd.1 (by rw [z]; exact List.mem_map.mpr ⟨_, e, rfl⟩)
      exact (dgetD_neg (by rw [eqb_str]; simpa using ne)).trans (ih nd.2 e)
theorem put_new {kvs : List (D × D)} {k v : D} (h : ∀ q ∈ kvs, D.eqb q.1 k = false) : dputD kvs k v = kvs ++ [(k, v)] := by
  unfold dputD
  rw [if_neg]
  rw [List.any_eq_true]
  rintro ⟨q, hq, z⟩
  rw [h q hq] at z
  cases z
/-! ### the order of keys is total; what is sorted is told -/
theorem cps_le {a b : List Nat} (h1 : ¬a < b) (h2 : ¬b < a) : a = b := List.le_antisymm (List.not_lt.mp h2) (List.not_lt.mp h1)
theorem str_cps {x y : Str} (h : x.cps.toList = y.cps.toList) : x = y := PySem.W.str_of_cps h
mutual
theorem ltN_tri : ∀ (x y : NestedKey), LOk x y → LOk y x → ltN x y = false → ltN y x = false → x = y
  | .num i, .num j, _, _, a, b => by
    rw [ltN_num] at a b
    have a := of_decide_eq_false a
    have b := of_decide_eq_false b
    rw [show i = j by omega]
  | .text x, .text y, _, _, a, b => by
    rw [ltN_text] at a b
    rw [str_cps (cps_le (of_decide_eq_false a) (of_decide_eq_false b))]
  | .tup xs, .tup ys, h, g, a, b => by
    rw [ltN_tup] at a b
    simp only [LOk] at h g
    rw [ltNs_tri xs ys h g a b]
  | .none, _, h, _, _, _ => by simp [LOk] at h
  | .num _, .none, h, _, _, _ => by simp [LOk] at h
  | .num _, .text _, h, _, _, _ => by simp [LOk] at h
  | .num _, .tup _, h, _, _, _ => by simp [LOk] at h
  | .text _, .none, h, _, _, _ => by simp [LOk] at h
  | .text _, .num _, h, _, _, _ => by simp [LOk] at h
  | .text _, .tup _, h, _, _, _ => by simp [LOk] at h
  | .tup _, .none, h, _, _, _ => by simp [LOk] at h
  | .tup _, .num _, h, _, _, _ => by simp [LOk] at h
  | .tup _, .text _, h, _, _, _ => by simp [LOk] at h
theorem ltNs_tri : ∀ (xs ys : List NestedKey), LOks xs ys → LOks ys xs → lexT (tksN xs) (tksN ys) = false → lexT (tksN ys) (tksN xs) = false → xs = ys
  | [], [], _, _, _, _ => rfl
  | [], _ :: _, _, _, a, _ => by rw [ltNs_nc] at a; cases a
  | _ :: _, [], _, _, _, b => by rw [ltNs_nc] at b; cases b
  | x :: xs, y :: ys, h, g, a, b => by
    simp only [LOks] at h g
    by_cases e : x = y
    · subst e
      rw [ltNs_eq] at a b
      rw [ltNs_tri xs ys (h.1 rfl) (g.1 rfl) a b]
    · rw [ltNs_ne (h.2 e) e] at a
      rw [ltNs_ne (g.2 (Ne.symm e)) (Ne.symm e)] at b
      exact absurd (ltN_tri x y (h.2 e) (g.2 (Ne.symm e)) a b) e
end
theorem sorted_uq {le : D → D → Prop} : ∀ {ys zs : List D}, ys.Perm zs → (∀ a ∈ ys, ∀ b ∈ ys, le a b → le b a → a = b) → ys.Pairwise le → zs.Pairwise le → ys = zs
  | [], zs, p, _, _, _ => (List.Perm.nil_eq p)
  | y :: ys, [], p, _, _, _ => absurd p.length_eq (by simp)
  | y :: ys, z :: zs, p, tri, h1, h2 => by
    have hy : y ∈ z :: zs := p.mem_iff.mp List.mem_cons_self
    have hz : z ∈ y :: ys := p.mem_iff.mpr List.mem_cons_self
    rw [List.pairwise_cons] at h1 h2
    have e : y = z := by
      rcases List.mem_cons.mp hy with e | e
      · exact e
      · rcases List.mem_cons.mp hz with e' | e'
        · exact e'.symm
        · exact tri y List.mem_cons_self z hz (h1.1 z e') (h2.1 y e)
    subst e
    rw [sorted_uq p.cons_inv (fun a ha b hb => tri a (List.mem_cons_of_mem _ ha) b (List.mem_cons_of_mem _ hb)) h1.2 h2.2]
/-- two results of sorting the same things -/
theorem sortTo_uniq {xs xs' ys zs : List D} (S : SrtD xs) (inj : ∀ a ∈ xs, ∀ b ∈ xs, a.nt = b.nt → a = b) (hp : xs.Perm xs') (h1 : SortTo xs ys) (h2 : SortTo xs' zs) : ys = zs := by
  refine sorted_uq (le := fun a b => ltN b.nt a.nt = false) (h1.1.trans (hp.trans h2.1.symm)) (fun a ha b hb l1 l2 => ?_) h1.2 h2.2
  have ha' := h1.1.mem_iff.mp ha
  have hb' := h1.1.mem_iff.mp hb
  exact inj a ha' b hb' (ltN_tri _ _ (S.ok.ok _ (List.mem_map.mpr ⟨a, ha', rfl⟩) _ (List.mem_map.mpr ⟨b, hb', rfl⟩)) (S.ok.ok _ (List.mem_map.mpr ⟨b, hb', rfl⟩) _ (List.mem_map.mpr ⟨a, ha', rfl⟩)) l2 l1)
/-! ### causes -/
inductive Cs where
  | en (n : Str) (b : Int)
  | cr (n m : Str)
abbrev Row := Sp2 × Cs
def csD : Cs → D
  | .en n b => .tup [.str "end", .str n, .int b]
  | .cr n m => .tup [.str "cross", .str n, .str m]
def rowD (r : Row) : D := .tup [tp r.1, csD r.2]
theorem csD_inj {a b : Cs} (h : csD a = csD b) : a = b := by
  cases a <;> cases b <;> simp only [csD, D.tup.injEq, List.cons.injEq, D.str.injEq, D.int.injEq, and_true] at h
  · rw [h.2.1, h.2.2]
  · exact absurd h.1 (by decide)
  · exact absurd h.1 (by decide)
  · rw [h.2.1, h.2.2]
theorem tp_inj {a b : Sp2} (h : tp a = tp b) : a = b := by
  obtain ⟨a1, a2⟩ := a
  obtain ⟨b1, b2⟩ := b
  simp only [tp, D.tup.injEq, List.cons.injEq, D.int.injEq, and_true] at h
  rw [h.1, h.2]
theorem rowD_inj {a b : Row} (h : rowD a = rowD b) : a = b := by
  simp only [rowD, D.tup.injEq, List.cons.injEq, and_true] at h
  exact Prod.ext (tp_inj h.1) (csD_inj h.2)
theorem csD_nt {a b : Cs} (h : (csD a).nt = (csD b).nt) : a = b := by
  cases a <;> cases b <;> simp only [csD, D.nt, D.nts, NestedKey.tup.injEq, List.cons.injEq, NestedKey.text.injEq, NestedKey.num.injEq, and_true] at h
  · rw [h.2.1, h.2.2]
  · exact absurd h.1 (by decide)
  · exact absurd h.1 (by decide)
  · rw [h.2.1, h.2.2]
theorem rowD_nt {a b : Row} (h : (rowD a).nt = (rowD b).nt) : a = b := by
  obtain ⟨⟨a1, a2⟩, a3⟩ := a
  obtain ⟨⟨b1, b2⟩, b3⟩ := b
  simp only [rowD, tp, D.nt, D.nts, NestedKey.tup.injEq, List.cons.injEq, NestedKey.num.injEq, and_true] at h
  rw [h.1.1, h.1.2, csD_nt h.2]
theorem lok_cs (a b : Cs) : LOk (csD a).nt (csD b).nt := by
  have ne : ((("end" : Str)) : Str) ≠ "cross" := by decide
  cases a <;> cases b <;> simp only [csD, D.nt, D.nts, LOk, LOks]
  · exact ⟨fun _ => ⟨fun _ => ⟨fun _ => True.intro, fun _ => True.intro⟩, fun _ => True.intro⟩, fun _ => True.intro⟩
  · exact ⟨fun z => absurd (NestedKey.text.inj z) ne, fun _ => True.intro⟩
  · exact ⟨fun z => absurd (NestedKey.text.inj z).symm ne, fun _ => True.intro⟩
  · exact ⟨fun _ => ⟨fun _ => ⟨fun _ => True.intro, fun _ => True.intro⟩, fun _ => True.intro⟩, fun _ => True.intro⟩
theorem srt_rows {L : List Row} : SrtD (L.map rowD) := by
  refine ⟨⟨⟨4, fun k hk => ?_⟩, fun k hk j hj => ?_, fun k hk => ?_⟩, fun d hd => ?_⟩
  · obtain ⟨d, hd, rfl⟩ := List.mem_map.mp hk
    obtain ⟨x, _, rfl⟩ := List.mem_map.mp hd
    simp [rowD, tp, D.nt, D.nts, kindN]
  · obtain ⟨d, hd, rfl⟩ := List.mem_map.mp hk
    obtain ⟨x, _, rfl⟩ := List.mem_map.mp hd
    obtain ⟨e, he, rfl⟩ := List.mem_map.mp hj
    obtain ⟨y, _, rfl⟩ := List.mem_map.mp he
    have l1 := lok_pair (a := x.1.1) (b := x.1.2) (c := y.1.1) (d := y.1.2)
    have l2 := lok_cs x.2 y.2
    show LOks [(tp x.1).nt, (csD x.2).nt] [(tp y.1).nt, (csD y.2).nt]
    simp only [LOks]
    exact ⟨fun _ => ⟨fun _ => True.intro, fun _ => l2⟩, fun _ => l1⟩
  · obtain ⟨d, hd, rfl⟩ := List.mem_map.mp hk
    obtain ⟨⟨⟨x1, x2⟩, c⟩, _, rfl⟩ := List.mem_map.mp hd
    cases c <;> simp [rowD, tp, csD, D.nt, D.nts, NestedKey.depth, NestedKey.depthAll]
  · obtain ⟨⟨⟨x1, x2⟩, c⟩, _, rfl⟩ := List.mem_map.mp hd
    cases c <;> rfl
/-! ### a heap's names rising, its causes -/
theorem rows_nt {L : List Row} : ∀ a ∈ L.map rowD, ∀ b ∈ L.map rowD, a.nt = b.nt → a = b := fun a ha b hb h => by
  obtain ⟨x, _, rfl⟩ := List.mem_map.mp ha
  obtain ⟨y, _, rfl⟩ := List.mem_map.mp hb
  rw [rowD_nt h]
/-- the heap P, its strokes by rising names -/
structure Ris (P S : List (Str × D)) : Prop where
  perm : S.Perm P
  up : S.Pairwise fun p q => ltN (.text p.1) (.text q.1) = true
theorem ris_of {P : List (Str × D)} (hP : HeapP P) {ys : List D} (h : SortTo ((hpD P).map (·.1)) ys) : ∃ S, Ris P S ∧ ys = S.map fun p => D.str p.1 := by
  have hp := h.1
  have key : ∀ ys : List D, ys.Perm ((hpD P).map (·.1)) → ∃ S : List (Str × D), S.Perm P ∧ ys = S.map fun p => D.str p.1 := fun ys hy => by
    have e : (hpD P).map (·.1) = P.map fun p => D.str p.1 := by unfold hpD; rw [List.map_map]; rfl
    rw [e] at hy
    clear e h hp hP
    induction ys generalizing P with
    | nil =>
      have := hy.length_eq
      have : P = [] := List.eq_nil_of_length_eq_zero (by simpa using this.symm)
      subst this
      exact ⟨[], .nil, rfl⟩
    | cons y ys ih =>
      obtain ⟨p, hpm, e⟩ := List.mem_map.mp (hy.mem_iff.mp (List.mem_cons_self))
      obtain ⟨l1, l2, rfl⟩ := List.append_of_mem hpm
      have h2 : (y :: ys).Perm (y :: ((l1 ++ l2).map fun p => D.str p.1)) := by
        refine hy.trans ?_
        rw [← e, List.map_append, List.map_cons, List.map_append]
        exact List.perm_middle
      obtain ⟨S, h3, h4⟩ := ih h2.cons_inv
      refine ⟨p :: S, (List.Perm.cons p h3).trans List.perm_middle.symm, ?_⟩
      rw [List.map_cons, ← h4, e]
  obtain ⟨S, h1, rfl⟩ := key ys hp
  refine ⟨S, ⟨h1, ?_⟩, rfl⟩
  have hs := List.pairwise_map.mp h.2
  have nd : (S.map (·.1)).Nodup := (h1.map _).nodup_iff.mpr hP.nd
  have nd' : S.Pairwise fun p q => p.1 ≠ q.1 := List.pairwise_map.mp nd
  refine (hs.and nd').imp fun {p q} z => ?_
  have z1 : ltN (.text q.1) (.text p.1) = false := z.1
  cases e : ltN (.text p.1) (.text q.1) with
  | true => rfl
  | false => exact absurd (NestedKey.text.inj (ltN_tri _ _ True.intro True.intro e z1)) z.2
theorem Ris.nd {P S : List (Str × D)} (hP : HeapP P) (h : Ris P S) : (S.map (·.1)).Nodup := (h.perm.map _).nodup_iff.mpr hP.nd
theorem Ris.uniq {P S S' : List (Str × D)} (hP : HeapP P) (h : Ris P S) (h' : Ris P S') : S = S' := by
  have key : ∀ {ys zs : List (Str × D)}, ys.Perm zs → ys.Pairwise (fun p q => ltN (.text p.1) (.text q.1) = true) → zs.Pairwise (fun p q => ltN (.text p.1) (.text q.1) = true) → ys = zs := by
    intro ys
    induction ys with
    | nil => intro zs p _ _; exact List.Perm.nil_eq p
    | cons y ys ih =>
      intro zs p h1 h2
      cases zs with
      | nil => exact absurd p.length_eq (by simp)
      | cons z zs =>
        have hy : y ∈ z :: zs := p.mem_iff.mp List.mem_cons_self
        have hz : z ∈ y :: ys := p.mem_iff.mpr List.mem_cons_self
        rw [List.pairwise_cons] at h1 h2
        have e : y = z := by
          rcases List.mem_cons.mp hy with e | e
          · exact e
          · rcases List.mem_cons.mp hz with e' | e'
            · exact e'.symm
            · have a := h1.1 z e'
              have b := h2.1 y e
              rw [ltN_text] at a b
              exact absurd (of_decide_eq_true b) (List.lt_asymm (of_decide_eq_true a))
        subst e
        rw [ih p.cons_inv h1.2 h2.2]
  exact key (h.perm.trans h'.perm.symm) h.up h'.up
/-- where two strokes meet in one place: its square -/
def placeSp : D → Option Sp2
  | .tup [.str k, .tup [.tup [.int x, .int v], .tup [.int y, .int w]]] => if k = "at" then some (nearI x v, nearI y w) else none
  | _ => none
def meetSp : D → D → Option Sp2
  | .tup [.int a, .int b, .int c, .int d], .tup [.int e, .int f, .int g, .int h] => placeSp (meetD a b c d e f g h)
  | _, _ => none
def oneSp : D → Sp2
  | .tup [.int a, .int b, _, _] => (a, b)
  | _ => (0, 0)
def twoSp : D → Sp2
  | .tup [_, _, .int c, .int d] => (c, d)
  | _ => (0, 0)
def ends (p : Str × D) : List Row := [(oneSp p.2, .en p.1 0), (twoSp p.2, .en p.1 1)]
def crosses (p : Str × D) (r : List (Str × D)) : List Row := r.filterMap fun q => (meetSp p.2 q.2).map fun s => (s, .cr p.1 q.1)
def crossed (r : List (Str × D)) (p : Str × D) : List Row := r.filterMap fun q => (meetSp q.2 p.2).map fun s => (s, .cr q.1 p.1)
def rowsP : List (Str × D) → List Row
  | [] => []
  | p :: r => ends p ++ crosses p r ++ rowsP r
def rowsL (pre : List (Str × D)) : List (Str × D) → List Row
  | [] => []
  | p :: r => ends p ++ crossed pre p ++ rowsL (pre ++ [p]) r
theorem flat_two {α β : Type} (f g : α → List β) : ∀ r : List α, (r.flatMap fun x => f x ++ g x).Perm (r.flatMap f ++ r.flatMap g)
  | [] => .nil
  | x :: r => by
    simp only [List.flatMap_cons]
    have ih := flat_two f g r
    refine ((List.Perm.refl (f x ++ g x)).append ih).trans ?_
    rw [List.append_assoc, List.append_assoc]
    refine (List.Perm.refl (f x)).append ?_
    rw [← List.append_assoc, ← List.append_assoc]
    exact List.perm_append_comm.append (List.Perm.refl _)
theorem rowsL_perm : ∀ (S pre : List (Str × D)), (rowsL pre S).Perm (rowsP S ++ S.flatMap (crossed pre))
  | [], _ => .nil
  | p :: r, pre => by
    have ih := rowsL_perm r (pre ++ [p])
    have e : ∀ y : Str × D, crossed (pre ++ [p]) y = crossed pre y ++ crossed [p] y := fun y => by unfold crossed; rw [List.filterMap_append]
    have e2 : (r.flatMap fun y => crossed (pre ++ [p]) y) = r.flatMap fun y => crossed pre y ++ crossed [p] y := by
      congr 1
      funext y
      exact e y
    have e3 : ∀ r : List (Str × D), r.flatMap (crossed [p]) = crosses p r := by
      intro r
      induction r with
      | nil => rfl
      | cons y r ih =>
        rw [List.flatMap_cons, ih]
        simp only [crosses, crossed, List.filterMap_cons, List.filterMap_nil]
        cases meetSp p.2 y.2 <;> rfl
    have h1 : (r.flatMap (crossed (pre ++ [p]))).Perm (r.flatMap (crossed pre) ++ crosses p r) := by
      have := flat_two (crossed pre) (crossed [p]) r
      rw [← e2, e3 r] at this
      exact this
    show (ends p ++ crossed pre p ++ rowsL (pre ++ [p]) r).Perm (ends p ++ crosses p r ++ rowsP r ++ (crossed pre p ++ r.flatMap (crossed pre)))
    refine ((List.Perm.refl (ends p ++ crossed pre p)).append (ih.trans ((List.Perm.refl _).append h1))).trans ?_
    simp only [List.append_assoc]
    refine (List.Perm.refl (ends p)).append ?_
    generalize crossed pre p = A
    generalize rowsP r = B
    generalize r.flatMap (crossed pre) = C
    generalize crosses p r = Z
    -- A ++ (B ++ (C ++ Z)) ~ Z ++ (B ++ (A ++ C))
    have k1 : (A ++ (B ++ (C ++ Z))).Perm (Z ++ (A ++ (B ++ C))) := by
      have : (A ++ (B ++ C) ++ Z).Perm (Z ++ (A ++ (B ++ C))) := List.perm_append_comm
      simpa only [List.append_assoc] using this
    refine k1.trans ((List.Perm.refl Z).append ?_)
    have k2 : (A ++ B ++ C).Perm (B ++ A ++ C) := List.perm_append_comm.append (List.Perm.refl C)
    simpa only [List.append_assoc] using k2
theorem rowsL_P (S : List (Str × D)) : (rowsL [] S).Perm (rowsP S) := by
  have h := rowsL_perm S []
  have e : S.flatMap (crossed []) = [] := by
    induction S with
    | nil => rfl
    | cons p r ih =>
      rw [List.flatMap_cons, ih (rowsL_perm r [])]
      rfl
  rw [e, List.append_nil] at h
  exact h
/-! ### the two defs -/
theorem forD_cons {g : DG} {b : DS} {N : DN} {d : D} {ds : List D} {ρ : List Slot} : forD g b N (d :: ds) ρ = g d ρ (fun ρ' => b { N with nx := forD g b N ds, ct := forD g b N ds, bk := N.nx } ρ') := rfl
theorem hp_flt {P : List (Str × D)} : ∀ q ∈ hpD P, q.1.flt = true := fun q hq => by
  obtain ⟨p, _, rfl⟩ := List.mem_map.mp hq
  rfl
theorem hp_ix {P : List (Str × D)} (hP : HeapP P) {n : Str} {s : D} {Q : D → Prop} (h : (n, s) ∈ P) (q : Q s) : ixKD (.dic (hpD P)) (.str n) Q := by
  refine ⟨.inl ⟨rfl, hp_flt⟩, ?_⟩
  rw [hp_get hP.nd h]
  exact q
theorem keys_srt {P : List (Str × D)} : SrtD ((hpD P).map (·.1)) := by
  have e : (hpD P).map (·.1) = (P.map (·.1)).map D.str := by unfold hpD; rw [List.map_map, List.map_map]; rfl
  rw [e]
  exact srt_strs
def bodyX : DS := (sSeq (sSet 7 (dCall c_meet [] (dCons (dVar 5) (dCons (dOp ixKD (dVar 0) (dVar 6)) dNil)))) (sIf (dAnd (dTest (dOp notNonD (dVar 7) (dC .non))) (dTest (dOp eqD (dOp ixD (dVar 7) (dC (.int 0))) (dC (.str "at"))))) (sAppend 2 (dTup (dCons (dCall c_square_of [] (dCons (dOp ixD (dVar 7) (dC (.int 1))) dNil)) (dCons (dTup (dCons (dC (.str "cross")) (dCons (dVar 4) (dCons (dVar 6) dNil)))) dNil)))) sNext))
theorem rows_len {p : Str × D} {r : List (Str × D)} : (crosses p r).length ≤ r.length := List.length_filterMap_le _ _
theorem crosses_loop {P : List (Str × D)} (hP : HeapP P) {N : DN} {n : Str} {s : D} {s1 s3 : Slot} (hs : StrokeOk s) : ∀ (r : List (Str × D)) (acc : List D) (s6 s7 : Slot), (∀ p ∈ r, p ∈ P) → acc.length + r.length ≤ 100000 →
    (∀ s6 s7, N.nx [.v (.dic (hpD P)), s1, .own (.lst (acc ++ (crosses (n, s) r).map rowD)), s3, .v (.str n), .v s, s6, s7]) → forD (gN 6) bodyX N (r.map fun p => D.str p.1) [.v (.dic (hpD P)), s1, .own (.lst acc), s3, .v (.str n), .v s, s6, s7]
  | [], acc, s6, s7, _, _, h => by
    have := h s6 s7
    simp only [crosses, List.filterMap_nil, List.map_nil, List.append_nil] at this
    exact this
  | p :: r, acc, s6, s7, hm, hl, h => by
    obtain ⟨a, b, c, d, rfl, a0, a1, b0, b1, c0, c1, d0, d1, n1⟩ := hs
    obtain ⟨e, f, g, k, ek, e0, e1, f0, f1, g0, g1, k0, k1, n2⟩ := hP.st p (hm p List.mem_cons_self)
    rw [List.map_cons, forD_cons]
    unfold bodyX
    walk_at "dv"
    refine hp_ix hP (s := p.2) (hm p List.mem_cons_self) ?_
    rw [ek]
    walk_at "dv"
    have m1 := in100 a0 a1
    have m2 := in100 b0 b1
    have m3 := in100 c0 c1
    have m4 := in100 d0 d1
    have m5 := in100 e0 e1
    have m6 := in100 f0 f1
    have m7 := in100 g0 g1
    have m8 := in100 k0 k1
    refine meet_ok m1 m2 m3 m4 m5 m6 m7 m8 ?_
    have mc := meet_c m1 m2 m3 m4 m5 m6 m7 m8 n1 n2
    have em : meetSp (.tup [.int a, .int b, .int c, .int d]) p.2 = placeSp (meetD a b c d e f g k) := by rw [ek]; rfl
    have hc : crosses (n, .tup [.int a, .int b, .int c, .int d]) (p :: r) = ((placeSp (meetD a b c d e f g k)).map fun s => (s, Cs.cr n p.1)).toList ++ crosses (n, .tup [.int a, .int b, .int c, .int d]) r := by
      unfold crosses
      rw [List.filterMap_cons]
      simp only [em]
      cases placeSp (meetD a b c d e f g k) <;> rfl
    rw [hc] at h
    generalize meetD a b c d e f g k = R at *
    have ih := fun acc s6 s7 => crosses_loop hP (N := N) (n := n) (s := .tup [.int a, .int b, .int c, .int d]) (s1 := s1) (s3 := s3) ⟨a, b, c, d, rfl, a0, a1, b0, b1, c0, c1, d0, d1, n1⟩ r acc s6 s7 (fun q hq => hm q (List.mem_cons_of_mem _ hq))
    have hl' : acc.length + (r.length + 1) ≤ 100000 := hl
    cases mc with
    | non =>
      walk_at "dv"
      refine ih _ _ _ (by omega) fun s6 s7 => ?_
      have := h s6 s7
      simpa [placeSp] using this
    | at_ x v y w v0 w0 v1 w1 _ _ _ _ =>
      walk_at "dv"
      refine ⟨lay_of (n := 0) (by decide) (show PyData.strOk _ = true by decide +kernel), lay_of (n := 0) (by decide) (show PyData.strOk _ = true by decide +kernel), ?_⟩
      walk_at "dv"
      refine square_of_ok v0 v1 w0 w1 ?_
      walk_at "dv"
      refine ⟨Nat.lt_of_le_of_lt (show acc.length ≤ 100000 by omega) (by decide), ih _ _ _ (by rw [List.length_append, List.length_singleton]; omega) fun s6 s7 => ?_⟩
      have := h s6 s7
      rw [show placeSp (.tup [.str (Str.ofString "at"), .tup [.tup [.int x, .int v], .tup [.int y, .int w]]]) = some (nearI x v, nearI y w) by simp [placeSp]] at this
      rw [List.append_assoc]
      exact this
    | along p1 q1 r1 s1' _ _ _ _ _ =>
      walk_at "dv"
      refine ⟨lay_of (n := 0) (by decide) (show PyData.strOk _ = true by decide +kernel), lay_of (n := 0) (by decide) (show PyData.strOk _ = true by decide +kernel), ?_⟩
      rw [if_neg (by decide)]
      walk_at "dv"
      refine ih _ _ _ (by omega) fun s6 s7 => ?_
      have := h s6 s7
      simpa [placeSp, show (Str.ofString "along" = Str.ofString "at") = False from eq_false (by decide)] using this
def bodyC : DS := (sSeq (sSet 5 (dOp ixKD (dVar 0) (dVar 4))) (sSeq (sAppend 2 (dTup (dCons (dSl (dVar 5) dNo (dPart (dC (.int 2)))) (dCons (dTup (dCons (dC (.str "end")) (dCons (dVar 4) (dCons (dC (.int 0)) dNil)))) dNil)))) (sSeq (sAppend 2 (dTup (dCons (dSl (dVar 5) (dPart (dC (.int 2))) dNo) (dCons (dTup (dCons (dC (.str "end")) (dCons (dVar 4) (dCons (dC (.int 1)) dNil)))) dNil)))) (sFor (iSeq (dSl (dVar 1) (dPart (dOp addD (dVar 3) (dC (.int 1)))) dNo)) (gN 6) bodyX))))
theorem cut_tail {ds : List D} {k : Nat} (h : k ≤ ds.length) : cutD ds (some (k : Int)) none = ds.drop k := by
  unfold cutD
  rw [HT.sIx_nat, HT.sIx_none, Nat.min_eq_left h, List.take_of_length_le]
  rw [List.length_drop]
  exact Nat.le_refl _
theorem cut_head {ds : List D} {k : Nat} (h : k ≤ ds.length) : cutD ds none (some (k : Int)) = ds.take k := by
  unfold cutD
  rw [HT.sIx_nat, HT.sIx_none, Nat.min_eq_left h, Nat.sub_zero, List.drop_zero]
theorem rowsP_len : ∀ {r : List (Str × D)}, r.length ≤ 32 → (rowsP r).length ≤ 34 * r.length
  | [], _ => by simp [rowsP]
  | p :: r, hl => by
    rw [List.length_cons] at hl
    have ih := rowsP_len (r := r) (by omega)
    have h2 := rows_len (p := p) (r := r)
    simp only [rowsP, List.length_append, List.length_cons, ends, List.length_nil]
    omega
theorem rowsP_len2 : ∀ {r : List (Str × D)}, 2 * (rowsP r).length ≤ r.length * (r.length + 3)
  | [] => by simp [rowsP]
  | p :: r => by
    have ih := rowsP_len2 (r := r)
    have h2 := rows_len (p := p) (r := r)
    have e : (r.length + 1) * (r.length + 1 + 3) = r.length * (r.length + 3) + 2 * r.length + 4 := by
      simp only [Nat.add_mul, Nat.mul_add]
      omega
    simp only [rowsP, List.length_append, List.length_cons, ends, List.length_nil]
    rw [e]
    omega
theorem enumD_c {n : Nat} {d : D} {ds : List D} : enumD n (d :: ds) = .tup [.int (n : Int), d] :: enumD (n + 1) ds := rfl
theorem causes_loop {P : List (Str × D)} (hP : HeapP P) {N : DN} {pre0 : List (Str × D)} : ∀ (r pre : List (Str × D)) (acc : List D) (s3 s4 s5 s6 s7 : Slot), (∀ p ∈ r, p ∈ P) → pre.length + r.length ≤ 32 → acc.length + (rowsP r).length ≤ 2000 →
    (∀ s3 s4 s5 s6 s7, N.nx [.v (.dic (hpD P)), .v (.lst ((pre ++ r).map fun p => D.str p.1)), .own (.lst (acc ++ (rowsP r).map rowD)), s3, s4, s5, s6, s7]) →
    forD (gT 2 (gsCons (gN 3) (gsCons (gN 4) gsNil))) bodyC N (enumD pre.length (r.map fun p => D.str p.1)) [.v (.dic (hpD P)), .v (.lst ((pre ++ r).map fun p => D.str p.1)), .own (.lst acc), s3, s4, s5, s6, s7]
  | [], pre, acc, s3, s4, s5, s6, s7, _, _, _, h => by
    have := h s3 s4 s5 s6 s7
    simp only [rowsP, List.map_nil, List.append_nil] at this ⊢
    exact this
  | p :: r, pre, acc, s3, s4, s5, s6, s7, hm, hl, hl2, h => by
    have hs := hP.st p (hm p List.mem_cons_self)
    have hs' := hs
    obtain ⟨a, b, c, d, ek, a0, a1, b0, b1, c0, c1, d0, d1, n1⟩ := hs
    rw [List.map_cons, enumD_c, forD_cons]
    unfold bodyC
    walk_at "dv"
    refine hp_ix hP (s := p.2) (hm p List.mem_cons_self) ?_
    rw [ek]
    walk_at "dv"
    have hlen : (rowsP (p :: r)).length = 2 + (crosses p r).length + (rowsP r).length := by
      simp only [rowsP, ends, List.length_append, List.length_cons, List.length_nil]
    have lc := rows_len (p := p) (r := r)
    have sz : ∀ n : Nat, n ≤ 2000 → n < sizeLine := fun n h => by rw [sizeLine_eq]; omega
    refine ⟨sz _ (by omega), sz _ (by rw [List.length_append, List.length_singleton]; omega), ?_⟩
    have ct : cutD ((pre ++ p :: r).map fun p => D.str p.1) (some ((pre.length : Int) + 1)) none = r.map fun p => D.str p.1 := by
      have := cut_tail (ds := (pre ++ p :: r).map fun p => D.str p.1) (k := pre.length + 1) (by rw [List.length_map, List.length_append, List.length_cons]; omega)
      rw [show ((pre.length + 1 : Nat) : Int) = (pre.length : Int) + 1 by omega] at this
      rw [this, List.map_append, List.map_cons]
      rw [show List.map (fun p : Str × D => D.str p.1) pre ++ D.str p.1 :: List.map (fun p : Str × D => D.str p.1) r = (List.map (fun p : Str × D => D.str p.1) pre ++ [D.str p.1]) ++ List.map (fun p : Str × D => D.str p.1) r by simp]
      rw [List.drop_left']
      simp
    rw [ct]
    rw [List.length_cons] at hl
    refine crosses_loop (n := p.1) (s := .tup [.int a, .int b, .int c, .int d]) hP (by rw [← ek]; exact hs') r _ _ _ (fun q hq => hm q (List.mem_cons_of_mem _ hq)) (by rw [List.length_append]; simp only [List.length_cons, List.length_nil]; omega) fun s6 s7 => ?_
    have ih := causes_loop hP (N := N) (pre0 := pre0) r (pre ++ [p]) (acc ++ [D.tup [.tup [.int a, .int b], .tup [.str "end", .str p.1, .int 0]], .tup [.tup [.int c, .int d], .tup [.str "end", .str p.1, .int 1]]] ++ (crosses p r).map rowD) (.v (.int pre.length)) (.v (.str p.1)) (.v (.tup [.int a, .int b, .int c, .int d])) s6 s7
      (fun q hq => hm q (List.mem_cons_of_mem _ hq)) (by rw [List.length_append, List.length_singleton]; omega) (by simp only [List.length_append, List.length_map, List.length_cons, List.length_nil]; omega) fun s3 s4 s5 s6 s7 => ?_
    · have e1 : (pre ++ [p]) ++ r = pre ++ p :: r := by simp
      have ecr : crosses (p.1, .tup [.int a, .int b, .int c, .int d]) r = crosses p r := by rw [← ek]
      rw [e1, List.length_append, List.length_singleton] at ih
      rw [ecr]
      exact ih
    · have := h s3 s4 s5 s6 s7
      have e1 : (pre ++ [p]) ++ r = pre ++ p :: r := by simp
      have e2 : (rowsP (p :: r)).map rowD = [D.tup [.tup [.int a, .int b], .tup [.str "end", .str p.1, .int 0]], .tup [.tup [.int c, .int d], .tup [.str "end", .str p.1, .int 1]]] ++ (crosses p r).map rowD ++ (rowsP r).map rowD := by
        simp only [rowsP, ends, ek, oneSp, twoSp, List.map_append, List.map_cons, List.map_nil, rowD, tp, csD]
      rw [e1]
      rw [e2] at this
      simpa only [List.append_assoc] using this
/-! ### the law's causes -/
def rngI {α : Type} : Nat → List α → List D
  | _, [] => []
  | k, _ :: r => .int (k : Int) :: rngI (k + 1) r
theorem rngI_eq {α : Type} : ∀ (r : List α) (k : Nat), rngI k r = rngD (k : Int) r.length
  | [], _ => rfl
  | _ :: r, k => by
    rw [rngI, rngI_eq r (k + 1), List.length_cons]
    unfold rngD
    rw [List.range_succ_eq_map, List.map_cons, List.map_map]
    simp only [List.cons.injEq]
    refine ⟨by simp, ?_⟩
    refine List.map_congr_left fun i _ => ?_
    simp only [Function.comp_apply, D.int.injEq]
    omega
theorem ix_mid {α : Type} {pre r : List α} {x : α} {f : α → D} {Q : D → Prop} (h : Q (f x)) : ixD (.lst ((pre ++ x :: r).map f)) (.int (pre.length : Int)) Q := by
  refine ix_nat (by rw [List.length_map, List.length_append, List.length_cons]; omega) ?_
  simpa using h
def bodyY : DS := (sSeq (sSet 6 (dCall c_law_meet [] (dCons (dOp ixKD (dVar 0) (dVar 5)) (dCons (dVar 4) dNil)))) (sIf (dAnd (dTest (dOp notNonD (dVar 6) (dC .non))) (dTest (dOp eqD (dOp ixD (dVar 6) (dC (.int 0))) (dC (.str "at"))))) (sSeq (sAsg (dOp ixD (dVar 6) (dC (.int 1))) (gT 2 (gsCons (gN 7) (gsCons (gN 8) gsNil)))) (sAppend 2 (dTup (dCons (dTup (dCons (dCall c_nearest [] (dCons (dVar 7) dNil)) (dCons (dCall c_nearest [] (dCons (dVar 8) dNil)) dNil))) (dCons (dTup (dCons (dC (.str "cross")) (dCons (dVar 5) (dCons (dOp ixD (dVar 1) (dVar 3)) dNil)))) dNil))))) sNext))
def bodyL : DS := (sSeq (sSet 4 (dOp ixKD (dVar 0) (dOp ixD (dVar 1) (dVar 3)))) (sSeq (sAppend 2 (dTup (dCons (dSl (dVar 4) dNo (dPart (dC (.int 2)))) (dCons (dTup (dCons (dC (.str "end")) (dCons (dOp ixD (dVar 1) (dVar 3)) (dCons (dC (.int 0)) dNil)))) dNil)))) (sSeq (sAppend 2 (dTup (dCons (dSl (dVar 4) (dPart (dC (.int 2))) dNo) (dCons (dTup (dCons (dC (.str "end")) (dCons (dOp ixD (dVar 1) (dVar 3)) (dCons (dC (.int 1)) dNil)))) dNil)))) (sFor (iSeq (dSl (dVar 1) dNo (dPart (dVar 3)))) (gN 5) bodyY))))
theorem crossed_len {p : Str × D} {r : List (Str × D)} : (crossed r p).length ≤ r.length := List.length_filterMap_le _ _
theorem crossed_loop {P : List (Str × D)} (hP : HeapP P) {N : DN} {pre0 r0 : List (Str × D)} {p : Str × D} (hs : StrokeOk p.2) : ∀ (r : List (Str × D)) (acc : List D) (s5 s6 s7 s8 : Slot), (∀ p ∈ r, p ∈ P) → acc.length + r.length ≤ 100000 →
    (∀ s5 s6 s7 s8, N.nx [.v (.dic (hpD P)), .v (.lst ((pre0 ++ p :: r0).map fun p => D.str p.1)), .own (.lst (acc ++ (crossed r p).map rowD)), .v (.int (pre0.length : Int)), .v p.2, s5, s6, s7, s8]) →
    forD (gN 5) bodyY N (r.map fun p => D.str p.1) [.v (.dic (hpD P)), .v (.lst ((pre0 ++ p :: r0).map fun p => D.str p.1)), .own (.lst acc), .v (.int (pre0.length : Int)), .v p.2, s5, s6, s7, s8]
  | [], acc, s5, s6, s7, s8, _, _, h => by
    have := h s5 s6 s7 s8
    simp only [crossed, List.filterMap_nil, List.map_nil, List.append_nil] at this
    exact this
  | q :: r, acc, s5, s6, s7, s8, hm, hl, h => by
    have ih := fun acc s5 s6 s7 s8 => crossed_loop hP (N := N) (pre0 := pre0) (r0 := r0) (p := p) hs r acc s5 s6 s7 s8 (fun q hq => hm q (List.mem_cons_of_mem _ hq))
    obtain ⟨e, f, g, k, ep, e0, e1, f0, f1, g0, g1, k0, k1, n2⟩ := hs
    obtain ⟨a, b, c, d, eq, a0, a1, b0, b1, c0, c1, d0, d1, n1⟩ := hP.st q (hm q List.mem_cons_self)
    have m1 := in100 a0 a1
    have m2 := in100 b0 b1
    have m3 := in100 c0 c1
    have m4 := in100 d0 d1
    have m5 := in100 e0 e1
    have m6 := in100 f0 f1
    have m7 := in100 g0 g1
    have m8 := in100 k0 k1
    have mc := meet_c m1 m2 m3 m4 m5 m6 m7 m8 n1 n2
    have em : meetSp q.2 p.2 = placeSp (meetD a b c d e f g k) := by rw [eq, ep]; rfl
    have hc : crossed (q :: r) p = ((placeSp (meetD a b c d e f g k)).map fun s => (s, Cs.cr q.1 p.1)).toList ++ crossed r p := by
      unfold crossed
      rw [List.filterMap_cons]
      simp only [em]
      cases placeSp (meetD a b c d e f g k) <;> rfl
    rw [hc] at h
    rw [List.map_cons, forD_cons]
    unfold bodyY
    rw [ep] at ih h ⊢
    walk_at "dv"
    refine hp_ix hP (s := q.2) (hm q List.mem_cons_self) ?_
    rw [eq]
    walk_at "dv"
    refine law_meet_ok m1 m2 m3 m4 m5 m6 m7 m8 ?_
    generalize meetD a b c d e f g k = R at *
    have hl' : acc.length + (r.length + 1) ≤ 100000 := hl
    cases mc with
    | non =>
      walk_at "dv"
      refine ih _ _ _ _ _ (by omega) fun s5 s6 s7 s8 => ?_
      have := h s5 s6 s7 s8
      simpa [placeSp] using this
    | at_ x v y w v0 w0 v1 w1 _ _ _ _ =>
      walk_at "dv"
      refine ⟨lay_of (n := 0) (by decide) (show PyData.strOk _ = true by decide +kernel), lay_of (n := 0) (by decide) (show PyData.strOk _ = true by decide +kernel), ?_⟩
      refine nearest_of v0 (by omega) ?_
      walk_at "dv"
      refine nearest_of w0 (by omega) ?_
      walk_at "dv"
      refine ix_mid ?_
      walk_at "dv"
      refine ⟨Nat.lt_of_le_of_lt (show acc.length ≤ 100000 by omega) (by decide), ih _ _ _ _ _ (by rw [List.length_append, List.length_singleton]; omega) fun s5 s6 s7 s8 => ?_⟩
      have := h s5 s6 s7 s8
      rw [show placeSp (.tup [.str (Str.ofString "at"), .tup [.tup [.int x, .int v], .tup [.int y, .int w]]]) = some (nearI x v, nearI y w) by simp [placeSp]] at this
      rw [List.append_assoc]
      exact this
    | along p1 q1 r1 s1' _ _ _ _ _ =>
      walk_at "dv"
      refine ⟨lay_of (n := 0) (by decide) (show PyData.strOk _ = true by decide +kernel), lay_of (n := 0) (by decide) (show PyData.strOk _ = true by decide +kernel), ?_⟩
      rw [if_neg (by decide)]
      walk_at "dv"
      refine ih _ _ _ _ _ (by omega) fun s5 s6 s7 s8 => ?_
      have := h s5 s6 s7 s8
      simpa [placeSp, show (Str.ofString "along" = Str.ofString "at") = False from eq_false (by decide)] using this
theorem rowsL_len : ∀ {r pre : List (Str × D)}, pre.length + r.length ≤ 32 → (rowsL pre r).length ≤ 34 * r.length
  | [], _, _ => by simp [rowsL]
  | p :: r, pre, hl => by
    rw [List.length_cons] at hl
    have ih := rowsL_len (r := r) (pre := pre ++ [p]) (by rw [List.length_append, List.length_singleton]; omega)
    have h2 := crossed_len (p := p) (r := pre)
    simp only [rowsL, List.length_append, List.length_cons, ends, List.length_nil]
    omega
theorem law_causes_loop {P : List (Str × D)} (hP : HeapP P) {N : DN} : ∀ (r pre : List (Str × D)) (acc : List D) (s3 s4 s5 s6 s7 s8 : Slot), (∀ p ∈ r, p ∈ P) → (∀ p ∈ pre, p ∈ P) → pre.length + r.length ≤ 32 → acc.length + (rowsL pre r).length ≤ 2000 →
    (∀ s3 s4 s5 s6 s7 s8, N.nx [.v (.dic (hpD P)), .v (.lst ((pre ++ r).map fun p => D.str p.1)), .own (.lst (acc ++ (rowsL pre r).map rowD)), s3, s4, s5, s6, s7, s8]) →
    forD (gN 3) bodyL N (rngI pre.length r) [.v (.dic (hpD P)), .v (.lst ((pre ++ r).map fun p => D.str p.1)), .own (.lst acc), s3, s4, s5, s6, s7, s8]
  | [], pre, acc, s3, s4, s5, s6, s7, s8, _, _, _, _, h => by
    have := h s3 s4 s5 s6 s7 s8
    simp only [rowsL, List.map_nil, List.append_nil] at this ⊢
    exact this
  | p :: r, pre, acc, s3, s4, s5, s6, s7, s8, hm, hpre, hl, hl2, h => by
    have hs := hP.st p (hm p List.mem_cons_self)
    have hs' := hs
    obtain ⟨a, b, c, d, ek, a0, a1, b0, b1, c0, c1, d0, d1, n1⟩ := hs
    rw [rngI, forD_cons]
    unfold bodyL
    walk_at "dv"
    refine ix_mid ?_
    walk_at "dv"
    refine hp_ix hP (s := p.2) (hm p List.mem_cons_self) ?_
    rw [ek]
    walk_at "dv"
    have hlen : (rowsL pre (p :: r)).length = 2 + (crossed pre p).length + (rowsL (pre ++ [p]) r).length := by
      simp only [rowsL, ends, List.length_append, List.length_cons, List.length_nil]
    have lc := crossed_len (p := p) (r := pre)
    have sz : ∀ n : Nat, n ≤ 2000 → n < sizeLine := fun n h => by rw [sizeLine_eq]; omega
    refine ix_mid ?_
    walk_at "dv"
    refine ⟨sz _ (by omega), ?_⟩
    refine ix_mid ?_
    walk_at "dv"
    refine ⟨sz _ (by rw [List.length_append, List.length_singleton]; omega), ?_⟩
    have ct : cutD ((pre ++ p :: r).map fun p => D.str p.1) none (some (pre.length : Int)) = pre.map fun p => D.str p.1 := by
      rw [cut_head (by rw [List.length_map, List.length_append]; omega), List.map_append, List.take_left' (by rw [List.length_map])]
    rw [ct]
    rw [List.length_cons] at hl
    rw [← ek]
    refine crossed_loop (p := p) (pre0 := pre) (r0 := r) hP hs' pre _ _ _ _ _ hpre (by rw [List.length_append]; simp only [List.length_cons, List.length_nil]; omega) fun s5 s6 s7 s8 => ?_
    have ih := law_causes_loop hP (N := N) r (pre ++ [p]) (acc ++ [D.tup [.tup [.int a, .int b], .tup [.str "end", .str p.1, .int 0]], .tup [.tup [.int c, .int d], .tup [.str "end", .str p.1, .int 1]]] ++ (crossed pre p).map rowD) (.v (.int pre.length)) (.v p.2) s5 s6 s7 s8
      (fun q hq => hm q (List.mem_cons_of_mem _ hq)) (fun q hq => by
        rcases List.mem_append.mp hq with z | z
        · exact hpre q z
        · rw [List.mem_singleton] at z
          subst z
          exact hm q List.mem_cons_self) (by rw [List.length_append, List.length_singleton]; omega) (by simp only [List.length_append, List.length_map, List.length_cons, List.length_nil]; omega) fun s3 s4 s5 s6 s7 s8 => ?_
    · have e1 : (pre ++ [p]) ++ r = pre ++ p :: r := by simp
      rw [e1, List.length_append, List.length_singleton] at ih
      exact ih
    · have := h s3 s4 s5 s6 s7 s8
      have e1 : (pre ++ [p]) ++ r = pre ++ p :: r := by simp
      have e2 : (rowsL pre (p :: r)).map rowD = [D.tup [.tup [.int a, .int b], .tup [.str "end", .str p.1, .int 0]], .tup [.tup [.int c, .int d], .tup [.str "end", .str p.1, .int 1]]] ++ (crossed pre p).map rowD ++ (rowsL (pre ++ [p]) r).map rowD := by
        simp only [rowsL, ends, ek, oneSp, twoSp, List.map_append, List.map_cons, List.map_nil, rowD, tp, csD]
      rw [e1]
      rw [e2] at this
      simpa only [List.append_assoc] using this
theorem law_causes_ok {P : List (Str × D)} {Q : D → Prop} (hP : HeapP P) (h : ∀ S ys, Ris P S → SortTo ((rowsL [] S).map rowD) ys → Q (.lst ys)) : c_law_causes [.dic (hpD P)] Q := by
  unfold c_law_causes
  walk_at "dv"
  rw [sortedC_d]
  refine ⟨keys_srt, fun ys hys => ?_⟩
  obtain ⟨S, hS, rfl⟩ := ris_of hP hys
  walk_at "dv"
  have hl : S.length ≤ 32 := by rw [hS.perm.length_eq]; exact hP.few
  have hl' : (S.map fun p => D.str p.1).length ≤ 32 := by rw [List.length_map]; exact hl
  refine ⟨⟨by omega, by omega⟩, ?_⟩
  rw [show rngD 0 (((S.map fun p => D.str p.1).length : Nat) : Int).toNat = rngI 0 S by rw [rngI_eq, List.length_map]; rfl]
  refine law_causes_loop hP S [] [] _ _ _ _ _ _ (fun p hp => hS.perm.mem_iff.mp hp) (fun _ z => nomatch z) (by simpa using hl) (by have := rowsL_len (r := S) (pre := []) (by simpa using hl); simp only [List.length_nil]; omega) fun s3 s4 s5 s6 s7 s8 => ?_
  walk_at "dv"
  rw [sortedC_l]
  exact ⟨srt_rows, fun ys hy => h S ys hS hy⟩
/-! ### the one row of causes -/
structure Cau (P : List (Str × D)) (R : List Row) : Prop where
  of : ∃ S, Ris P S ∧ R.Perm (rowsP S)
  up : (R.map rowD).Pairwise fun a b => ltN b.nt a.nt = false
theorem cau_of {P S : List (Str × D)} {L : List Row} {ys : List D} (hS : Ris P S) (hp : L.Perm (rowsP S)) (h : SortTo (L.map rowD) ys) : ∃ R, Cau P R ∧ ys = R.map rowD := by
  obtain ⟨R, p, rfl⟩ := perm_lift rowD h.1 L rfl
  exact ⟨R, ⟨⟨S, hS, p.trans hp⟩, h.2⟩, rfl⟩
theorem Cau.uniq {P : List (Str × D)} {R R' : List Row} (hP : HeapP P) (h : Cau P R) (h' : Cau P R') : R = R' := by
  obtain ⟨S, hS, p⟩ := h.of
  obtain ⟨S', hS', p'⟩ := h'.of
  have e := hS.uniq hP hS'
  subst e
  have := sortTo_uniq srt_rows rows_nt (List.Perm.refl ((rowsP S).map rowD)) ⟨p.map _, h.up⟩ ⟨p'.map _, h'.up⟩
  exact (List.map_inj_right fun a b z => rowD_inj z).mp this
theorem law_causes_at {P : List (Str × D)} {Q : D → Prop} (hP : HeapP P) (h : ∀ R, Cau P R → Q (.lst (R.map rowD))) : c_law_causes [.dic (hpD P)] Q := by
  refine law_causes_ok hP fun S ys hS hy => ?_
  obtain ⟨R, hR, rfl⟩ := cau_of hS (rowsL_P S) hy
  exact h R hR
theorem Cau.len {P : List (Str × D)} {R : List Row} (hP : HeapP P) (h : Cau P R) : R.length ≤ 560 := by
  obtain ⟨S, hS, p⟩ := h.of
  have hl : S.length ≤ 32 := by rw [hS.perm.length_eq]; exact hP.few
  have h2 := rowsP_len2 (r := S)
  have : S.length * (S.length + 3) ≤ 32 * 35 := Nat.mul_le_mul hl (by omega)
  rw [p.length_eq]
  omega
/-! ### the hot squares, by the law -/
def hotD (Z : List Sp2) : List (D × D) := Z.map fun s => (tp s, .bl true)
theorem hot_put {Z : List Sp2} {s : Sp2} : dputD (hotD Z) (tp s) (.bl true) = hotD (if s ∈ Z then Z else Z ++ [s]) := by
  have e : ((hotD Z).any fun z => D.eqb z.1 (tp s)) = decide (s ∈ Z) := by
    have := any_tp (s := s) Z
    rw [List.any_map] at this
    unfold hotD
    rw [List.any_map]
    exact this
  unfold dputD
  rw [e]
  by_cases h : s ∈ Z
  · rw [if_pos (by simpa using h), if_pos h]
    unfold hotD
    rw [List.map_map]
    refine List.map_congr_left fun x _ => ?_
    simp only [Function.comp_apply]
    split <;> rfl
  · rw [if_neg (by simpa using h), if_neg h]
    unfold hotD
    rw [List.map_append]
    rfl
theorem hot_kok {Z : List Sp2} : ∀ q ∈ hotD Z, q.1.kok = true := fun q hq => by
  obtain ⟨s, _, rfl⟩ := List.mem_map.mp hq
  exact kok_tp s
def hotZ : List Sp2 → List Row → List Sp2
  | Z, [] => Z
  | Z, r :: R => hotZ (if r.1 ∈ Z then Z else Z ++ [r.1]) R
theorem hotZ_nd : ∀ {R : List Row} {Z : List Sp2}, Z.Nodup → (hotZ Z R).Nodup
  | [], _, h => h
  | r :: R, Z, h => by
    refine hotZ_nd (R := R) ?_
    by_cases m : r.1 ∈ Z
    · rw [if_pos m]; exact h
    · rw [if_neg m, List.nodup_append]
      refine ⟨h, by simp, fun a ha b hb => ?_⟩
      rw [List.mem_singleton] at hb
      rintro rfl
      exact m (hb ▸ ha)
theorem hotZ_mem {s : Sp2} : ∀ {R : List Row} {Z : List Sp2}, s ∈ hotZ Z R ↔ s ∈ Z ∨ s ∈ R.map (·.1)
  | [], _ => by simp [hotZ]
  | r :: R, Z => by
    rw [hotZ, hotZ_mem, List.map_cons, List.mem_cons]
    by_cases m : r.1 ∈ Z
    · rw [if_pos m]
      constructor
      · rintro (h | h)
        · exact .inl h
        · exact .inr (.inr h)
      · rintro (h | rfl | h)
        · exact .inl h
        · exact .inl m
        · exact .inr h
    · rw [if_neg m, List.mem_append, List.mem_singleton]
      constructor
      · rintro ((h | h) | h)
        · exact .inl h
        · exact .inr (.inl h)
        · exact .inr (.inr h)
      · rintro (h | h | h)
        · exact .inl (.inl h)
        · exact .inl (.inr h)
        · exact .inr h
theorem hot_loop {N : DN} {s0 : Slot} : ∀ (R : List Row) (Z : List Sp2) (s2 s3 : Slot), Z.length + R.length ≤ 1000 → (∀ s2 s3, N.nx [s0, .own (.dic (hotD (hotZ Z R))), s2, s3]) →
    forD (gT 2 (gsCons (gN 2) (gsCons (gN 3) gsNil))) (sPutD 1 (dVar 2) (dC (.bl true))) N (R.map rowD) [s0, .own (.dic (hotD Z)), s2, s3]
  | [], _, s2, s3, _, h => h s2 s3
  | r :: R, Z, s2, s3, hl, h => by
    rw [List.length_cons] at hl
    rw [List.map_cons, forD_cons]
    show gT 2 (gsCons (gN 2) (gsCons (gN 3) gsNil)) (.tup [tp r.1, csD r.2]) _ _
    walk_at "dv"
    refine ⟨.inr ⟨kok_tp _, hot_kok⟩, by unfold hotD; rw [List.length_map, sizeLine_eq]; omega, ?_⟩
    rw [hot_put]
    refine hot_loop R _ _ _ ?_ h
    by_cases m : r.1 ∈ Z
    · rw [if_pos m]; omega
    · rw [if_neg m, List.length_append, List.length_singleton]; omega
/-- the hot squares, rising -/
structure Hot (R : List Row) (Z : List Sp2) : Prop where
  nd : Z.Nodup
  mem : ∀ s, s ∈ Z ↔ s ∈ R.map (·.1)
  up : (Z.map tp).Pairwise fun a b => ltN b.nt a.nt = false
theorem hot_of {R : List Row} {Z : List Sp2} {ys : List D} (nd : Z.Nodup) (mem : ∀ s, s ∈ Z ↔ s ∈ R.map (·.1)) (h : SortTo (Z.map tp) ys) : ∃ Y, Hot R Y ∧ ys = Y.map tp := by
  obtain ⟨Y, p, rfl⟩ := perm_lift tp h.1 Z rfl
  exact ⟨Y, ⟨p.nodup_iff.mpr nd, fun s => p.mem_iff.trans (mem s), h.2⟩, rfl⟩
theorem tp_nt {a b : Sp2} (h : (tp a).nt = (tp b).nt) : a = b := by
  obtain ⟨a1, a2⟩ := a
  obtain ⟨b1, b2⟩ := b
  simp only [tp, D.nt, D.nts, NestedKey.tup.injEq, List.cons.injEq, NestedKey.num.injEq, and_true] at h
  rw [h.1, h.2]
theorem Hot.uniq {R : List Row} {Y Z : List Sp2} (h : Hot R Y) (g : Hot R Z) : Y = Z := by
  have p : Y.Perm Z := (List.perm_ext_iff_of_nodup h.nd g.nd).mpr fun s => (h.mem s).trans (g.mem s).symm
  have := sortTo_uniq (xs := Y.map tp) (xs' := Z.map tp) srt_tps (fun a ha b hb e => by
    obtain ⟨x, _, rfl⟩ := List.mem_map.mp ha
    obtain ⟨y, _, rfl⟩ := List.mem_map.mp hb
    rw [tp_nt e]) (p.map tp) ⟨.refl _, h.up⟩ ⟨.refl _, g.up⟩
  exact (List.map_inj_right fun a b z => tp_inj z).mp this
theorem law_hot_ok {P : List (Str × D)} {Q : D → Prop} (hP : HeapP P) (h : ∀ R Z, Cau P R → Hot R Z → Q (.lst (Z.map tp))) : c_law_hot [.dic (hpD P)] Q := by
  unfold c_law_hot
  walk_at "dv"
  refine law_causes_at hP fun R hR => ?_
  walk_at "dv"
  have hl := hR.len hP
  refine hot_loop R [] _ _ (by simp only [List.length_nil]; omega) fun s2 s3 => ?_
  walk_at "dv"
  rw [sortedC_d]
  have e : (hotD (hotZ [] R)).map (·.1) = (hotZ [] R).map tp := by unfold hotD; rw [List.map_map]; rfl
  rw [e]
  refine ⟨srt_tps, fun ys hy => ?_⟩
  obtain ⟨Y, hY, rfl⟩ := hot_of (R := R) (hotZ_nd List.nodup_nil) (fun s => by rw [hotZ_mem]; simp) hy
  exact h R Y hR hY
/-! ### which rows there are -/
theorem lt_asym {x y : Str} (h : ltN (.text x) (.text y) = true) (g : ltN (.text y) (.text x) = true) : False := by
  rw [ltN_text] at h g
  exact absurd (of_decide_eq_true g) (List.lt_asymm (of_decide_eq_true h))
theorem mem_crosses {p : Str × D} {r : List (Str × D)} {x : Row} : x ∈ crosses p r ↔ ∃ q ∈ r, ∃ s, meetSp p.2 q.2 = some s ∧ x = (s, .cr p.1 q.1) := by
  unfold crosses
  rw [List.mem_filterMap]
  constructor
  · rintro ⟨q, hq, e⟩
    obtain ⟨s, e1, e2⟩ := Option.map_eq_some_iff.mp e
    exact ⟨q, hq, s, e1, e2.symm⟩
  · rintro ⟨q, hq, s, e1, rfl⟩
    exact ⟨q, hq, by rw [e1]; rfl⟩
theorem mem_rowsP {x : Row} : ∀ {S : List (Str × D)}, (S.Pairwise fun p q => ltN (.text p.1) (.text q.1) = true) →
    (x ∈ rowsP S ↔ (∃ p ∈ S, x = (oneSp p.2, .en p.1 0) ∨ x = (twoSp p.2, .en p.1 1)) ∨ ∃ p ∈ S, ∃ q ∈ S, ltN (.text p.1) (.text q.1) = true ∧ ∃ s, meetSp p.2 q.2 = some s ∧ x = (s, .cr p.1 q.1))
  | [], _ => by simp [rowsP]
  | p :: r, h => by
    rw [List.pairwise_cons] at h
    have ih := mem_rowsP (x := x) h.2
    rw [rowsP, List.mem_append, List.mem_append, ih, mem_crosses, ends]
    constructor
    · rintro ((e | ⟨q, hq, s, e1, e2⟩) | ⟨q, hq, e⟩ | ⟨q, hq, t, ht, l, e⟩)
      · rcases List.mem_cons.mp e with e | e
        · exact .inl ⟨p, List.mem_cons_self, .inl e⟩
        · exact .inl ⟨p, List.mem_cons_self, .inr (List.mem_singleton.mp e)⟩
      · exact .inr ⟨p, List.mem_cons_self, q, List.mem_cons_of_mem _ hq, h.1 q hq, s, e1, e2⟩
      · exact .inl ⟨q, List.mem_cons_of_mem _ hq, e⟩
      · exact .inr ⟨q, List.mem_cons_of_mem _ hq, t, List.mem_cons_of_mem _ ht, l, e⟩
    · rintro (⟨q, hq, e⟩ | ⟨q, hq, t, ht, l, e⟩)
      · rcases List.mem_cons.mp hq with rfl | hq
        · refine .inl (.inl ?_)
          rcases e with e | e
          · rw [e]; exact List.mem_cons_self
          · rw [e]; exact List.mem_cons_of_mem _ List.mem_cons_self
        · exact .inr (.inl ⟨q, hq, e⟩)
      · rcases List.mem_cons.mp hq with e1 | hq
        · rcases List.mem_cons.mp ht with e2 | ht
          · rw [e1, e2] at l
            exact (lt_asym l l).elim
          · rw [e1] at e
            exact .inl (.inr ⟨t, ht, e⟩)
        · rcases List.mem_cons.mp ht with e2 | ht
          · rw [e2] at l
            exact (lt_asym l (h.1 q hq)).elim
          · exact .inr (.inr ⟨q, hq, t, ht, l, e⟩)
def RowOf (P : List (Str × D)) (x : Row) : Prop := (∃ p ∈ P, x = (oneSp p.2, .en p.1 0) ∨ x = (twoSp p.2, .en p.1 1)) ∨ ∃ p ∈ P, ∃ q ∈ P, ltN (.text p.1) (.text q.1) = true ∧ ∃ s, meetSp p.2 q.2 = some s ∧ x = (s, .cr p.1 q.1)
theorem Cau.mem {P : List (Str × D)} {R : List Row} (h : Cau P R) {x : Row} : x ∈ R ↔ RowOf P x := by
  obtain ⟨S, hS, p⟩ := h.of
  rw [p.mem_iff, mem_rowsP hS.up]
  have e : ∀ p, p ∈ S ↔ p ∈ P := fun p => hS.perm.mem_iff
  unfold RowOf
  simp only [e]
def SpB (s : Sp2) : Prop := (-40 ≤ s.1 ∧ s.1 ≤ 40) ∧ -40 ≤ s.2 ∧ s.2 ≤ 40
theorem near_b {a c x v p q : Int} (v0 : 0 < v) (q0 : 0 < q) (p0 : 0 ≤ p) (p1 : p ≤ q) (a0 : -40 ≤ a) (a1 : a ≤ 40) (c0 : -40 ≤ c) (c1 : c ≤ 40) (e : x * q = (a * q + (c - a) * p) * v) : -40 ≤ nearI x v ∧ nearI x v ≤ 40 := by
  have h := nearI_between (o := x) v0
  generalize nearI x v = n at *
  have k1 : a * q + (c - a) * p = a * (q - p) + c * p := by grind
  have k2 : a * (q - p) ≤ 40 * (q - p) := Int.mul_le_mul_of_nonneg_right a1 (by omega)
  have k3 : c * p ≤ 40 * p := Int.mul_le_mul_of_nonneg_right c1 p0
  have k4 : -40 * (q - p) ≤ a * (q - p) := Int.mul_le_mul_of_nonneg_right a0 (by omega)
  have k5 : -40 * p ≤ c * p := Int.mul_le_mul_of_nonneg_right c0 p0
  generalize a * q + (c - a) * p = T at *
  have t1 : T ≤ 40 * q := by omega
  have t2 : -40 * q ≤ T := by omega
  have x1 : x ≤ 40 * v := by
    refine Int.le_of_mul_le_mul_right (a := q) ?_ q0
    rw [e]
    have := Int.mul_le_mul_of_nonneg_right t1 (Int.le_of_lt v0)
    grind
  have x2 : -40 * v ≤ x := by
    refine Int.le_of_mul_le_mul_right (a := q) ?_ q0
    rw [e]
    have := Int.mul_le_mul_of_nonneg_right t2 (Int.le_of_lt v0)
    grind
  constructor
  · have z : (-81) * v < (2 * n + 1) * v := by omega
    have := Int.lt_of_mul_lt_mul_right z (Int.le_of_lt v0)
    omega
  · have z : (2 * n - 1) * v < 81 * v := by omega
    have := Int.lt_of_mul_lt_mul_right z (Int.le_of_lt v0)
    omega
theorem OnS.near {a b c d x v y w : Int} (v0 : 0 < v) (w0 : 0 < w) (a0 : -40 ≤ a) (a1 : a ≤ 40) (b0 : -40 ≤ b) (b1 : b ≤ 40) (c0 : -40 ≤ c) (c1 : c ≤ 40) (d0 : -40 ≤ d) (d1 : d ≤ 40) (h : OnS a b c d x v y w) : SpB (nearI x v, nearI y w) := by
  obtain ⟨p, q, q0, p0, p1, e1, e2⟩ := h
  exact ⟨near_b v0 q0 p0 p1 a0 a1 c0 c1 e1, near_b w0 q0 p0 p1 b0 b1 d0 d1 e2⟩
theorem nd_len : ∀ {l m : List Sp2}, l.Nodup → (∀ x ∈ l, x ∈ m) → l.length ≤ m.length
  | [], _, _, _ => Nat.zero_le _
  | x :: l, m, nd, h => by
    rw [List.nodup_cons] at nd
    have hx := h x List.mem_cons_self
    have ih := nd_len (l := l) (m := m.erase x) nd.2 fun y hy => (List.mem_erase_of_ne (fun e => nd.1 (by rw [← e]; exact hy))).mpr (h y (List.mem_cons_of_mem _ hy))
    have e := List.length_erase_of_mem hx
    have := List.length_pos_of_mem hx
    rw [List.length_cons]
    omega
theorem Hot.len {P : List (Str × D)} {R : List Row} {Z : List Sp2} (hP : HeapP P) (h : Cau P R) (hZ : Hot R Z) : Z.length ≤ 560 := by
  have := nd_len hZ.nd (m := R.map (·.1)) fun s hs => (hZ.mem s).mp hs
  rw [List.length_map] at this
  have := h.len hP
  omega
theorem law_of_any {Q : D → Prop} {ds : List D} (h0 : ds ≠ []) (h1 : ds.length < 1000000) (h : ∀ d ∈ ds, Q d) : c_law_of [.bag, .lst ds] Q := by
  cases ds with
  | nil => exact absurd rfl h0
  | cons d ds => exact law_of_ok (by rw [List.length_cons] at h1; omega) h
/-! ### why -/
theorem lcD_fm {α : Type} {g : DG} {tt : DT} {te : DE} {ρ : List Slot} (e : α → D) (f : α → Option D) : ∀ (xs : List α) (acc : List D) (Q : D → Prop),
    (∀ x ∈ xs, ∀ (Q1 : D → Prop) (Q2 : Prop), (∀ y, f x = some y → Q1 y) → (f x = none → Q2) → g (e x) ρ fun ρ2 => tt ρ2 fun b => if b = true then te ρ2 Q1 else Q2) → acc.length + xs.length ≤ sizeLine → Q (.lst (acc ++ xs.filterMap f)) → lcD g tt te ρ (xs.map e) acc Q
  | [], acc, Q, _, _, q => by simpa [lcD] using q
  | x :: xs, acc, Q, h, hl, q => by
    rw [List.length_cons] at hl
    refine h x List.mem_cons_self (fun y => acc.length < sizeLine ∧ lcD g tt te ρ (xs.map e) (acc ++ [y]) Q) (lcD g tt te ρ (xs.map e) acc Q) (fun y hy => ⟨by omega, ?_⟩) fun hn => ?_
    · refine lcD_fm e f xs _ Q (fun x hx => h x (List.mem_cons_of_mem _ hx)) (by rw [List.length_append, List.length_singleton]; omega) ?_
      rw [List.filterMap_cons_some hy] at q
      rw [List.append_assoc]
      exact q
    · refine lcD_fm e f xs _ Q (fun x hx => h x (List.mem_cons_of_mem _ hx)) (by omega) ?_
      rwa [List.filterMap_cons_none hn] at q
def whyR (R : List Row) (s : Sp2) : List D := R.filterMap fun r => if r.1 = s then some (csD r.2) else none
theorem lay_tp (s : Sp2) : (tp s).lay = true := lay_t2
/-! ### who goes through -/
open Classical in
noncomputable def goB (s : D) (z : Sp2) : Bool := match s with
  | .tup [.int a, .int b, .int c, .int d] => decide (GoesP a b c d z.1 z.2)
  | _ => false
theorem goB_iff {a b c d : Int} {z : Sp2} : goB (.tup [.int a, .int b, .int c, .int d]) z = true ↔ GoesP a b c d z.1 z.2 := by simp [goB]
noncomputable def goersL (S : List (Str × D)) (z : Sp2) : List D := S.filterMap fun p => if goB p.2 z = true then some (D.str p.1) else none
theorem goes_at {s : D} {z : Sp2} {Q : D → Prop} (hs : StrokeOk s) (hz : SpB z) (h : Q (.bl (goB s z))) : c_goes [s, tp z] Q := by
  obtain ⟨a, b, c, d, rfl, a0, a1, b0, b1, c0, c1, d0, d1, n1⟩ := hs
  obtain ⟨m, n⟩ := z
  refine goes_ok (in100 a0 a1) (in100 b0 b1) (in100 c0 c1) (in100 d0 d1) (in100 hz.1.1 hz.1.2) (in100 hz.2.1 hz.2.2) fun r hr => ?_
  have e : r = goB (.tup [.int a, .int b, .int c, .int d]) (m, n) := by
    rw [Bool.eq_iff_iff, hr, goB_iff]
  rw [e]
  exact h
theorem law_goes_at {s : D} {z : Sp2} {Q : D → Prop} (hs : StrokeOk s) (hz : SpB z) (h : Q (.bl (goB s z))) : c_law_goes [s, tp z] Q := by
  obtain ⟨a, b, c, d, rfl, a0, a1, b0, b1, c0, c1, d0, d1, n1⟩ := hs
  obtain ⟨m, n⟩ := z
  refine law_goes_ok (in100 a0 a1) (in100 b0 b1) (in100 c0 c1) (in100 d0 d1) (in100 hz.1.1 hz.1.2) (in100 hz.2.1 hz.2.2) fun r hr => ?_
  have e : r = goB (.tup [.int a, .int b, .int c, .int d]) (m, n) := by
    rw [Bool.eq_iff_iff, hr, goB_iff]
  rw [e]
  exact h
theorem goers_at {P : List (Str × D)} {Q : D → Prop} (hP : HeapP P) {z : Sp2} (hz : SpB z) (h : ∀ S, Ris P S → Q (.tup (goersL S z))) : c_goers [.dic (hpD P), tp z] Q := by
  unfold c_goers
  walk_at "dv"
  rw [sortedC_d]
  refine ⟨keys_srt, fun ys hys => ?_⟩
  obtain ⟨S, hS, rfl⟩ := ris_of hP hys
  have hl : S.length ≤ 32 := by rw [hS.perm.length_eq]; exact hP.few
  walk_at "dv"
  refine lcD_fm (fun p : Str × D => D.str p.1) (fun p => if goB p.2 z = true then some (D.str p.1) else none) S [] _ (fun p hp Q1 Q2 k1 k2 => ?_) (by rw [sizeLine_eq, List.length_nil]; omega) ?_
  · have hp' := hS.perm.mem_iff.mp hp
    walk_at "dv"
    refine hp_ix hP (s := p.2) hp' ?_
    walk_at "dv"
    refine goes_at (hP.st p hp') hz ?_
    walk_at "dv"
    cases e : goB p.2 z with
    | true => exact k1 _ (if_pos e)
    | false => exact k2 (if_neg (by rw [e]; decide))
  · walk_at "dv"
    exact h S hS
/-! ### the paper -/
theorem mem_why {R : List Row} {z : Sp2} {d : D} : d ∈ whyR R z ↔ ∃ c, (z, c) ∈ R ∧ d = csD c := by
  unfold whyR
  rw [List.mem_filterMap]
  constructor
  · rintro ⟨r, hr, e⟩
    by_cases h : r.1 = z
    · rw [if_pos h] at e
      cases e
      exact ⟨r.2, by rw [← h]; exact hr, rfl⟩
    · rw [if_neg h] at e
      cases e
  · rintro ⟨c, hc, rfl⟩
    exact ⟨(z, c), hc, if_pos rfl⟩
theorem lay_str {x : Str} (h : PyData.strOk x = true) : (D.str x).lay = true := lay_of (n := 0) (by decide) h
theorem ok_end : PyData.strOk (Str.ofString "end") = true := by decide +kernel
theorem ok_cross : PyData.strOk (Str.ofString "cross") = true := by decide +kernel
theorem ok_cold : PyData.strOk (Str.ofString "cold") = true := by decide +kernel
theorem cs_layN {P : List (Str × D)} (hP : HeapP P) {z : Sp2} {c : Cs} (hc : RowOf P (z, c)) : LayN 1 (csD c) := by
  rcases hc with ⟨p, hp, e | e⟩ | ⟨p, hp, q, hq, _, s, e1, e⟩
  · cases e
    intro d hd
    simp only [List.mem_cons, List.not_mem_nil, or_false] at hd
    rcases hd with rfl | rfl | rfl
    · exact ok_end
    · exact hP.ok p hp
    · exact True.intro
  · cases e
    intro d hd
    simp only [List.mem_cons, List.not_mem_nil, or_false] at hd
    rcases hd with rfl | rfl | rfl
    · exact ok_end
    · exact hP.ok p hp
    · exact True.intro
  · cases e
    intro d hd
    simp only [List.mem_cons, List.not_mem_nil, or_false] at hd
    rcases hd with rfl | rfl | rfl
    · exact ok_cross
    · exact hP.ok p hp
    · exact hP.ok q hq
theorem goers_layN {P S : List (Str × D)} (hP : HeapP P) (hS : Ris P S) {z : Sp2} : LayN 1 (.tup (goersL S z)) := by
  intro d hd
  unfold goersL at hd
  obtain ⟨p, hp, e⟩ := List.mem_filterMap.mp hd
  by_cases h : goB p.2 z = true
  · rw [if_pos h] at e
    cases e
    exact hP.ok p (hS.perm.mem_iff.mp hp)
  · rw [if_neg h] at e
    cases e
theorem ne_ec : ¬Str.ofString "end" = Str.ofString "cold" := by decide
theorem ne_cc : ¬Str.ofString "cross" = Str.ofString "cold" := by decide
theorem ne_ce : ¬Str.ofString "cross" = Str.ofString "end" := by decide
theorem rows_layN {P : List (Str × D)} {R : List Row} (hP : HeapP P) (hR : Cau P R) : LayN 3 (.lst (R.map rowD)) := by
  intro d hd
  obtain ⟨x, hx, rfl⟩ := List.mem_map.mp hd
  intro d hd
  simp only [List.mem_cons, List.not_mem_nil, or_false] at hd
  rcases hd with rfl | rfl
  · intro d hd
    simp only [List.mem_cons, List.not_mem_nil, or_false] at hd
    rcases hd with rfl | rfl <;> exact True.intro
  · exact cs_layN hP (hR.mem.mp hx)
theorem eqb_cs {a b : Cs} : D.eqb (csD a) (csD b) = true ↔ a = b := by
  have ne : ¬(Str.ofString "end" = Str.ofString "cross") := by decide
  cases a <;> cases b
  · simp only [csD, eqb_tt, eqbs_cc, eqbs_nn, eqb_ss, eqb_ii, Bool.and_true, Bool.and_eq_true, beq_iff_eq, true_and, Cs.en.injEq]
  · simp only [csD, eqb_tt, eqbs_cc, eqbs_nn, eqb_ss, Bool.and_true, Bool.and_eq_true, beq_iff_eq, reduceCtorEq, iff_false]
    exact fun h => ne h.1
  · simp only [csD, eqb_tt, eqbs_cc, eqbs_nn, eqb_ss, Bool.and_true, Bool.and_eq_true, beq_iff_eq, reduceCtorEq, iff_false]
    exact fun h => ne h.1.symm
  · simp only [csD, eqb_tt, eqbs_cc, eqbs_nn, eqb_ss, Bool.and_true, Bool.and_eq_true, beq_iff_eq, true_and, Cs.cr.injEq]
theorem eqb_row {x y : Row} : D.eqb (rowD x) (rowD y) = true ↔ x = y := by
  simp only [rowD, eqb_tt, eqbs_cc, eqbs_nn, eqb_tp, Bool.and_true, Bool.and_eq_true, decide_eq_true_eq, eqb_cs]
  exact ⟨fun h => Prod.ext h.1 h.2, fun h => by rw [h]; exact ⟨rfl, rfl⟩⟩
theorem any_row {x : Row} {R : List Row} : ((R.map rowD).any fun z => D.eqb z (rowD x)) = true ↔ x ∈ R := by
  rw [List.any_map, List.any_eq_true]
  constructor
  · rintro ⟨y, hy, e⟩
    rw [← eqb_row.mp e]
    exact hy
  · intro h
    exact ⟨x, h, eqb_row.mpr rfl⟩
/-- the law's own judgement of a paper with a cause -/
theorem law_right_c {P : List (Str × D)} {Q : D → Prop} {z : Sp2} {c : Cs} (hP : HeapP P) (hc : LayN 1 (csD c)) (q : ∀ b : Bool, (b = true ↔ RowOf P (z, c)) → Q (.bl b)) : c_law_paper_right [.dic (hpD P), tp z, csD c] Q := by
  have fin : c_law_causes [.dic (hpD P)] (k_dOp2 inD (.tup [tp z, csD c]) Q) := by
    refine law_causes_at hP fun R hR => ?_
    refine ⟨lay_of (n := 2) (by decide) fun d hd => ?_, lay_of (n := 3) (by decide) (rows_layN hP hR), q _ ((any_row (x := (z, c))).trans hR.mem)⟩
    simp only [List.mem_cons, List.not_mem_nil, or_false] at hd
    rcases hd with rfl | rfl
    · intro d hd
      simp only [List.mem_cons, List.not_mem_nil, or_false] at hd
      rcases hd with rfl | rfl <;> exact True.intro
    · exact hc
  unfold c_law_paper_right
  cases c with
  | en n b =>
    simp only [csD] at fin ⊢
    walk_at "dv"
    refine ⟨lay_str ok_end, lay_str ok_cold, ?_⟩
    rw [if_neg ne_ec]
    exact fin
  | cr n m =>
    simp only [csD] at fin ⊢
    walk_at "dv"
    refine ⟨lay_str ok_cross, lay_str ok_cold, ?_⟩
    rw [if_neg ne_cc]
    exact fin
theorem eqbs_strs : ∀ {a b : List Str}, D.eqbs (a.map D.str) (b.map D.str) = true ↔ a = b
  | [], [] => by simp [eqbs_nn]
  | [], _ :: _ => by simp [eqbs_nc]
  | _ :: _, [] => by simp [eqbs_cn]
  | x :: a, y :: b => by
    rw [List.map_cons, List.map_cons, eqbs_cc, Bool.and_eq_true, eqb_ss, beq_iff_eq, eqbs_strs, List.cons.injEq]
noncomputable def goersS (S : List (Str × D)) (z : Sp2) : List Str := S.filterMap fun p => if goB p.2 z = true then some p.1 else none
theorem goers_map {S : List (Str × D)} {z : Sp2} : goersL S z = (goersS S z).map D.str := by
  unfold goersL goersS
  rw [List.map_filterMap]
  congr 1
  funext p
  by_cases h : goB p.2 z = true
  · rw [if_pos h, if_pos h]; rfl
  · rw [if_neg h, if_neg h]; rfl
theorem strs_layN {L : List Str} (h : ∀ x ∈ L, PyData.strOk x = true) : LayN 1 (.tup (L.map D.str)) := by
  intro d hd
  obtain ⟨x, hx, rfl⟩ := List.mem_map.mp hd
  exact h x hx
/-- of one that tells who goes through -/
theorem law_right_n {P : List (Str × D)} {Q : D → Prop} {z : Sp2} {L : List Str} (hP : HeapP P) (hz : SpB z) (hL : ∀ x ∈ L, PyData.strOk x = true) (q : ∀ S, Ris P S → ∀ b : Bool, (b = true ↔ L = goersS S z ∧ ∀ c, ¬RowOf P (z, c)) → Q (.bl b)) :
    c_law_paper_right [.dic (hpD P), tp z, .tup [.str "cold", .tup (L.map D.str)]] Q := by
  unfold c_law_paper_right
  walk_at "dv"
  refine ⟨lay_str ok_cold, lay_str ok_cold, ?_⟩
  rw [sortedC_d]
  refine ⟨keys_srt, fun ys hys => ?_⟩
  obtain ⟨S, hS, rfl⟩ := ris_of hP hys
  have hl : S.length ≤ 32 := by rw [hS.perm.length_eq]; exact hP.few
  walk_at "dv"
  refine lcD_fm (fun p : Str × D => D.str p.1) (fun p => if goB p.2 z = true then some (D.str p.1) else none) S [] _ (fun p hp Q1 Q2 k1 k2 => ?_) (by rw [sizeLine_eq, List.length_nil]; omega) ?_
  · have hp' := hS.perm.mem_iff.mp hp
    walk_at "dv"
    refine hp_ix hP (s := p.2) hp' ?_
    walk_at "dv"
    refine law_goes_at (hP.st p hp') hz ?_
    walk_at "dv"
    cases e : goB p.2 z with
    | true => exact k1 _ (if_pos e)
    | false => exact k2 (if_neg (by rw [e]; decide))
  · show k_dCons _ _ _ (.lst (goersL S z))
    walk_at "dv"
    refine ⟨lay_of (n := 1) (by decide) (strs_layN hL), lay_of (n := 1) (by decide) (goers_layN hP hS), ?_⟩
    by_cases e : D.eqbs (L.map D.str) (goersL S z) = true
    · rw [if_pos e]
      rw [goers_map] at e
      refine law_hot_ok hP fun R Z hR hZ => ?_
      obtain ⟨m, n⟩ := z
      refine notInD_tp (q S hS _ ?_)
      rw [Bool.not_eq_true', decide_eq_false_iff_not, hZ.mem]
      refine ⟨fun h => ⟨eqbs_strs.mp e, fun c hc => h (List.mem_map.mpr ⟨_, hR.mem.mpr hc, rfl⟩)⟩, fun h hm => ?_⟩
      obtain ⟨⟨s, c⟩, hx, e2⟩ := List.mem_map.mp hm
      cases e2
      exact h.2 c (hR.mem.mp hx)
    · rw [if_neg e]
      rw [goers_map] at e
      exact q S hS false ⟨fun h => by simp at h, fun h => (e (eqbs_strs.mpr h.1)).elim⟩
/-! ### the program's judge -/
theorem met_in_ok {s t : D} {z : Sp2} {Q : D → Prop} (hs : StrokeOk s) (ht : StrokeOk t) (q0 : Q (.bl (decide (meetSp s t = some z)))) : c_met_in [s, t, tp z] Q := by
  obtain ⟨a, b, c, d, rfl, a0, a1, b0, b1, c0, c1, d0, d1, n1⟩ := hs
  obtain ⟨e, f, g, k, rfl, e0, e1, f0, f1, g0, g1, k0, k1, n2⟩ := ht
  have mc := meet_c (in100 a0 a1) (in100 b0 b1) (in100 c0 c1) (in100 d0 d1) (in100 e0 e1) (in100 f0 f1) (in100 g0 g1) (in100 k0 k1) n1 n2
  unfold c_met_in
  walk_at "dv"
  refine meet_ok (in100 a0 a1) (in100 b0 b1) (in100 c0 c1) (in100 d0 d1) (in100 e0 e1) (in100 f0 f1) (in100 g0 g1) (in100 k0 k1) ?_
  have q' : ∀ t : Bool, (t = true ↔ placeSp (meetD a b c d e f g k) = some z) → Q (.bl t) := fun t h => by
    have e : t = decide (placeSp (meetD a b c d e f g k) = some z) := by rw [Bool.eq_iff_iff, h, decide_eq_true_eq]
    rw [e]
    exact q0
  clear q0
  generalize meetD a b c d e f g k = R at *
  cases mc with
  | non =>
    walk_at "dv"
    exact q' false (by simp [placeSp])
  | at_ x v y w v0 w0 v1 w1 _ _ _ _ =>
    walk_at "dv"
    refine ⟨lay_of (n := 0) (by decide) (show PyData.strOk _ = true by decide +kernel), lay_of (n := 0) (by decide) (show PyData.strOk _ = true by decide +kernel), ?_⟩
    refine square_of_ok v0 v1 w0 w1 ?_
    walk_at "dv"
    refine ⟨lay_tp _, q' _ ?_⟩
    rw [show placeSp (.tup [.str (Str.ofString "at"), .tup [.tup [.int x, .int v], .tup [.int y, .int w]]]) = some (nearI x v, nearI y w) by simp [placeSp]]
    have := eqb_tp (s := (nearI x v, nearI y w)) (t := z)
    show D.eqb (tp (nearI x v, nearI y w)) (tp z) = true ↔ _
    rw [this, decide_eq_true_eq, Option.some.injEq]
  | along p1 q1 r1 s1' _ _ _ _ _ =>
    walk_at "dv"
    refine ⟨lay_of (n := 0) (by decide) (show PyData.strOk _ = true by decide +kernel), lay_of (n := 0) (by decide) (show PyData.strOk _ = true by decide +kernel), ?_⟩
    rw [if_neg (by decide)]
    exact q' false (by simp [placeSp, show (Str.ofString "along" = Str.ofString "at") = False from eq_false (by decide)])
theorem lcA_fm {α : Type} {g : DG} {tt : DT} {te : DE} {ρ : List Slot} {K : List D → Prop} (e : α → D) (f : α → Option D) : ∀ (xs : List α) (acc : List D),
    (∀ x ∈ xs, ∀ (Q1 : D → Prop) (Q2 : Prop), (∀ y, f x = some y → Q1 y) → (f x = none → Q2) → g (e x) ρ fun ρ2 => tt ρ2 fun b => if b = true then te ρ2 Q1 else Q2) → acc.length + xs.length ≤ sizeLine → K (acc ++ xs.filterMap f) → lcA g tt te ρ (xs.map e) acc K
  | [], acc, _, _, q => by simpa [lcA] using q
  | x :: xs, acc, h, hl, q => by
    rw [List.length_cons] at hl
    refine h x List.mem_cons_self (fun y => acc.length < sizeLine ∧ lcA g tt te ρ (xs.map e) (acc ++ [y]) K) (lcA g tt te ρ (xs.map e) acc K) (fun y hy => ⟨by omega, ?_⟩) fun hn => ?_
    · refine lcA_fm e f xs _ (fun x hx => h x (List.mem_cons_of_mem _ hx)) (by rw [List.length_append, List.length_singleton]; omega) ?_
      rw [List.filterMap_cons_some hy] at q
      rw [List.append_assoc]
      exact q
    · refine lcA_fm e f xs _ (fun x hx => h x (List.mem_cons_of_mem _ hx)) (by omega) ?_
      rwa [List.filterMap_cons_none hn] at q
theorem lc2D_fm {α : Type} {g g1 : DG} {tt tt1 : DT} {it1 : DI} {te : DE} {vs1 : List Nat} {ρ : List Slot} {Q : D → Prop} (e : α → D) (F : α → List D) (n : Nat) : ∀ (xs : List α) (acc : List D),
    (∀ x ∈ xs, ∀ (acc : List D) (K : List D → Prop), acc.length + n ≤ sizeLine → K (acc ++ F x) → g (e x) ρ fun ρ2 => tt ρ2 fun b => if b = true then it1 ρ2 fun ds1 => lcA g1 tt1 te (wipeD (fgs ρ2) vs1) ds1 acc K else K acc) →
    (∀ x ∈ xs, (F x).length ≤ n) → acc.length + n * xs.length ≤ sizeLine → Q (.lst (acc ++ xs.flatMap F)) → lc2D g tt it1 g1 tt1 te vs1 ρ (xs.map e) acc Q
  | [], acc, _, _, _, q => by simpa [lc2D] using q
  | x :: xs, acc, h, hn, hl, q => by
    rw [List.length_cons, Nat.mul_succ] at hl
    refine h x List.mem_cons_self acc (fun acc' => lc2D g tt it1 g1 tt1 te vs1 ρ (xs.map e) acc' Q) (by omega) ?_
    have := hn x List.mem_cons_self
    refine lc2D_fm e F n xs _ (fun y hy => h y (List.mem_cons_of_mem _ hy)) (fun y hy => hn y (List.mem_cons_of_mem _ hy)) (by rw [List.length_append]; omega) ?_
    rw [List.flatMap_cons] at q
    rw [List.append_assoc]
    exact q
theorem goes_end {s : D} (hs : StrokeOk s) : goB s (oneSp s) = true ∧ goB s (twoSp s) = true := by
  obtain ⟨a, b, c, d, rfl, a0, a1, b0, b1, c0, c1, d0, d1, n1⟩ := hs
  have o1 : OnS a b c d a 1 b 1 := ⟨0, 1, by decide, by decide, by decide, by omega, by omega⟩
  have o2 : OnS a b c d c 1 d 1 := ⟨1, 1, by decide, by decide, by decide, by omega, by omega⟩
  have g1 := o1.goes (by decide) (by decide)
  have g2 := o2.goes (by decide) (by decide)
  rw [nearI_one, nearI_one] at g1 g2
  exact ⟨goB_iff.mpr g1, goB_iff.mpr g2⟩
theorem goes_meet {s t : D} (hs : StrokeOk s) (ht : StrokeOk t) {z : Sp2} (h : meetSp s t = some z) : goB s z = true ∧ goB t z = true := by
  obtain ⟨a, b, c, d, rfl, a0, a1, b0, b1, c0, c1, d0, d1, n1⟩ := hs
  obtain ⟨e, f, g, k, rfl, e0, e1, f0, f1, g0, g1, k0, k1, n2⟩ := ht
  have mc := meet_c (in100 a0 a1) (in100 b0 b1) (in100 c0 c1) (in100 d0 d1) (in100 e0 e1) (in100 f0 f1) (in100 g0 g1) (in100 k0 k1) n1 n2
  have h' : placeSp (meetD a b c d e f g k) = some z := h
  generalize meetD a b c d e f g k = R at *
  cases mc with
  | non => simp [placeSp] at h'
  | at_ x v y w v0 w0 v1 w1 _ _ o1 o2 =>
    have e : placeSp (.tup [.str (Str.ofString "at"), .tup [.tup [.int x, .int v], .tup [.int y, .int w]]]) = some (nearI x v, nearI y w) := by simp [placeSp]
    rw [e] at h'
    cases h'
    exact ⟨goB_iff.mpr (o1.goes v0 w0), goB_iff.mpr (o2.goes v0 w0)⟩
  | along p1 q1 r1 s1' _ _ _ _ _ => simp [placeSp, show (Str.ofString "along" = Str.ofString "at") = False from eq_false (by decide)] at h'
noncomputable def goG (S : List (Str × D)) (z : Sp2) : List (Str × D) := S.filter fun p => goB p.2 z
theorem goG_names {S : List (Str × D)} {z : Sp2} : goersS S z = (goG S z).map (·.1) := by
  unfold goersS goG
  induction S with
  | nil => rfl
  | cons p S ih =>
    by_cases h : goB p.2 z = true
    · rw [List.filterMap_cons_some (b := p.1) (by rw [if_pos h]), List.filter_cons, if_pos h, List.map_cons, ih]
    · rw [List.filterMap_cons_none (by rw [if_neg h]), List.filter_cons, if_neg h, ih]
def atEnd (z : Sp2) (p : Str × D) : Bool := decide (oneSp p.2 = z) || decide (twoSp p.2 = z)
def ltS (x y : Str) : Bool := ltN (.text x) (.text y)
theorem ltA_str {x y : Str} {Q : D → Prop} (hx : PyData.strOk x = true) (hy : PyData.strOk y = true) (q : Q (.bl (ltS x y))) : ltA (.str x) (.str y) Q := by
  refine .inr ⟨lay_str hx, lay_str hy, rfl, fun h => by simp [D.toP] at h, ?_⟩
  have e : W.dataLt (D.str x).toP (D.str y).toP = ltS x y := by
    simp only [D.toP, W.dataLt_str]
    unfold ltS
    rw [ltN_text]
  show Q (.bl (W.dataLt (D.str x).toP (D.str y).toP))
  rw [e]
  exact q
/-- no cause of a square: as the judge asks it, of those that go through -/
theorem no_cause {P S : List (Str × D)} (hP : HeapP P) (hS : Ris P S) {z : Sp2} : (∀ c, ¬RowOf P (z, c)) ↔ (∀ p ∈ goG S z, atEnd z p = false) ∧ ∀ p ∈ goG S z, ∀ q ∈ goG S z, ltS p.1 q.1 = true → ¬meetSp p.2 q.2 = some z := by
  have mem : ∀ p, p ∈ goG S z ↔ p ∈ P ∧ goB p.2 z = true := fun p => by unfold goG; rw [List.mem_filter, hS.perm.mem_iff]
  constructor
  · intro h
    refine ⟨fun p hp => ?_, fun p hp q hq l e => h _ (.inr ⟨p, ((mem p).mp hp).1, q, ((mem q).mp hq).1, l, z, e, rfl⟩)⟩
    have hp' := ((mem p).mp hp).1
    unfold atEnd
    rw [Bool.or_eq_false_iff, decide_eq_false_iff_not, decide_eq_false_iff_not]
    exact ⟨fun e => h (.en p.1 0) (.inl ⟨p, hp', .inl (by rw [e])⟩), fun e => h (.en p.1 1) (.inl ⟨p, hp', .inr (by rw [e])⟩)⟩
  · rintro ⟨h1, h2⟩ c hc
    rcases hc with ⟨p, hp, e | e⟩ | ⟨p, hp, q, hq, l, s, e1, e⟩
    · have ez : z = oneSp p.2 := congrArg Prod.fst e
      have := h1 p ((mem p).mpr ⟨hp, by rw [ez]; exact (goes_end (hP.st p hp)).1⟩)
      unfold atEnd at this
      rw [Bool.or_eq_false_iff, decide_eq_false_iff_not] at this
      exact this.1 ez.symm
    · have ez : z = twoSp p.2 := congrArg Prod.fst e
      have := h1 p ((mem p).mpr ⟨hp, by rw [ez]; exact (goes_end (hP.st p hp)).2⟩)
      unfold atEnd at this
      rw [Bool.or_eq_false_iff, decide_eq_false_iff_not, decide_eq_false_iff_not] at this
      exact this.2 ez.symm
    · have ez : z = s := congrArg Prod.fst e
      rw [← ez] at e1
      have := goes_meet (hP.st p hp) (hP.st q hq) e1
      exact h2 p ((mem p).mpr ⟨hp, this.1⟩) q ((mem q).mpr ⟨hq, this.2⟩) l e1
theorem cold_right_ok {P : List (Str × D)} {Q : D → Prop} {z : Sp2} {L : List Str} (hP : HeapP P) (hz : SpB z) (hL : ∀ x ∈ L, PyData.strOk x = true) (q : ∀ S, Ris P S → ∀ b : Bool, (b = true ↔ L = goersS S z ∧ ∀ c, ¬RowOf P (z, c)) → Q (.bl b)) :
    c_cold_right [.dic (hpD P), tp z, .tup (L.map D.str)] Q := by
  unfold c_cold_right
  walk_at "dv"
  refine goers_at hP hz fun S hS => ?_
  walk_at "dv"
  refine ⟨lay_of (n := 1) (by decide) (strs_layN hL), lay_of (n := 1) (by decide) (goers_layN hP hS), ?_⟩
  rw [goers_map]
  by_cases e : D.eqbs (L.map D.str) ((goersS S z).map D.str) = true
  · rw [e, if_neg (by decide)]
    have eL := eqbs_strs.mp e
    have hG : ∀ p ∈ goG S z, p ∈ P := fun p hp => hS.perm.mem_iff.mp (List.mem_filter.mp hp).1
    have lG : (goG S z).length ≤ 32 := Nat.le_trans (List.length_filter_le _ _) (by rw [hS.perm.length_eq]; exact hP.few)
    have nc := no_cause hP hS (z := z)
    have eL' : L.map D.str = (goG S z).map fun p => D.str p.1 := by rw [eL, goG_names, List.map_map]; rfl
    have q' := q S hS
    rw [eL] at q'
    simp only [true_and] at q'
    rw [nc] at q'
    rw [eL']
    generalize goG S z = G at *
    refine lcD_fm (fun p : Str × D => D.str p.1) (fun p => some (.bl (atEnd z p))) G [] _ (fun p hp Q1 Q2 k1 k2 => ?_) (by rw [sizeLine_eq, List.length_nil]; omega) ?_
    · walk_at "dv"
      obtain ⟨a, b, c, d, ek, a0, a1, b0, b1, c0, c1, d0, d1, n1⟩ := hP.st p (hG p hp)
      refine hp_ix hP (s := p.2) (hG p hp) ?_
      rw [ek]
      walk_at "dv"
      refine hp_ix hP (s := p.2) (hG p hp) ?_
      rw [ek]
      walk_at "dv"
      refine ⟨lay_tp _, lay_of (n := 2) (by decide) (fun d hd => ?_), ?_⟩
      · simp only [List.mem_cons, List.not_mem_nil, or_false] at hd
        rcases hd with rfl | rfl
        · intro d hd
          simp only [List.mem_cons, List.not_mem_nil, or_false] at hd
          rcases hd with rfl | rfl <;> exact True.intro
        · intro d hd
          simp only [List.mem_cons, List.not_mem_nil, or_false] at hd
          rcases hd with rfl | rfl <;> exact True.intro
      · refine k1 _ ?_
        have e1 := eqb_tp (s := (a, b)) (t := z)
        have e2 := eqb_tp (s := (c, d)) (t := z)
        simp only [tp] at e1 e2
        simp only [List.any_cons, List.any_nil, Bool.or_false, atEnd, ek, oneSp, twoSp]
        rw [← e1, ← e2]
        rfl
    · walk_at "dv"
      have eA : (G.filterMap fun p => some (D.bl (atEnd z p))) = G.map fun p => D.bl (atEnd z p) := by rw [List.filterMap_eq_map']
      rw [eA]
      refine ⟨by rw [List.all_map, List.all_eq_true]; intro p _; rfl, ?_⟩
      by_cases a1 : ((G.map fun p => D.bl (atEnd z p)).any isT) = true
      · rw [if_pos a1]
        refine q' false ⟨fun h => by simp at h, fun h => ?_⟩
        rw [List.any_map, List.any_eq_true] at a1
        obtain ⟨p, hp, t⟩ := a1
        have := h.1 p hp
        simp only [Function.comp_apply, this] at t
        cases t
      · rw [if_neg a1]
        have nA : ∀ p ∈ G, atEnd z p = false := fun p hp => by
          cases t : atEnd z p with
          | false => rfl
          | true =>
            refine (a1 ?_).elim
            rw [List.any_map, List.any_eq_true]
            exact ⟨p, hp, by simp only [Function.comp_apply, t]; rfl⟩
        refine lc2D_fm (fun p : Str × D => D.str p.1) (fun p => G.filterMap fun q => if ltS p.1 q.1 = true then some (.bl (decide (meetSp p.2 q.2 = some z))) else none) 32 G [] (fun p hp acc K hl hK => ?_) (fun p hp => Nat.le_trans (List.length_filterMap_le _ _) lG) (by rw [sizeLine_eq, List.length_nil]; omega) ?_
        · walk_at "dv"
          refine lcA_fm (fun p : Str × D => D.str p.1) (fun q => if ltS p.1 q.1 = true then some (.bl (decide (meetSp p.2 q.2 = some z))) else none) G acc (fun t ht Q1 Q2 k1 k2 => ?_) (by omega) hK
          walk_at "dv"
          refine ltA_str (hP.ok p (hG p hp)) (hP.ok t (hG t ht)) ?_
          walk_at "dv"
          cases l : ltS p.1 t.1 with
          | false =>
            rw [if_neg (by decide)]
            exact k2 (if_neg (by rw [l]; decide))
          | true =>
            rw [if_pos rfl]
            refine hp_ix hP (s := p.2) (hG p hp) ?_
            walk_at "dv"
            refine hp_ix hP (s := t.2) (hG t ht) ?_
            walk_at "dv"
            exact met_in_ok (hP.st p (hG p hp)) (hP.st t (hG t ht)) (k1 _ (if_pos l))
        · walk_at "dv"
          have allB : (G.flatMap fun p => G.filterMap fun q => if ltS p.1 q.1 = true then some (D.bl (decide (meetSp p.2 q.2 = some z))) else none).all isB = true := by
            rw [List.all_eq_true]
            intro d hd
            obtain ⟨p, _, hd⟩ := List.mem_flatMap.mp hd
            obtain ⟨t, _, e⟩ := List.mem_filterMap.mp hd
            by_cases l : ltS p.1 t.1 = true
            · rw [if_pos l] at e
              cases e
              rfl
            · rw [if_neg l] at e
              cases e
          refine ⟨allB, ?_⟩
          refine q' _ ?_
          rw [Bool.not_eq_true', ← Bool.not_eq_true, List.any_eq_true]
          constructor
          · intro h
            refine ⟨nA, fun p hp t ht l e => h ⟨.bl true, List.mem_flatMap.mpr ⟨p, hp, List.mem_filterMap.mpr ⟨t, ht, ?_⟩⟩, rfl⟩⟩
            rw [if_pos l, decide_eq_true e]
          · rintro h ⟨d, hd, tt⟩
            obtain ⟨p, hp, hd⟩ := List.mem_flatMap.mp hd
            obtain ⟨t, ht, e⟩ := List.mem_filterMap.mp hd
            by_cases l : ltS p.1 t.1 = true
            · rw [if_pos l, decide_eq_false (h.2 p hp t ht l)] at e
              cases e
              cases tt
            · rw [if_neg l] at e
              cases e
  · rw [if_pos (by simpa using e)]
    exact q S hS false ⟨fun h => by simp at h, fun h => (e (eqbs_strs.mpr h.1)).elim⟩
theorem hp_one {P : List (Str × D)} (hP : HeapP P) {n : Str} {s t : D} (h : (n, s) ∈ P) (g : (n, t) ∈ P) : s = t :=
  Option.some.inj ((hp_get hP.nd h).symm.trans (hp_get hP.nd g))
theorem hp_no {P : List (Str × D)} {n : Str} (h : ∀ s, (n, s) ∉ P) : dgetD (hpD P) (.str n) = none := by
  induction P with
  | nil => rfl
  | cons p P ih =>
    have ne : p.1 ≠ n := fun e => h p.2 (by rw [← e]; exact List.mem_cons_self)
    exact (dgetD_neg (by rw [eqb_str]; simpa using ne)).trans (ih fun s z => h s (List.mem_cons_of_mem _ z))
theorem hp_key {P : List (Str × D)} {n : Str} : keyFor (hpD P) (.str n) := .inl ⟨rfl, hp_flt⟩
theorem row_en {P : List (Str × D)} (hP : HeapP P) {n : Str} {s : D} {z : Sp2} {b : Int} (h : (n, s) ∈ P) : RowOf P (z, .en n b) ↔ (z = oneSp s ∧ b = 0) ∨ (z = twoSp s ∧ b = 1) := by
  constructor
  · rintro (⟨⟨n', s'⟩, hp, e | e⟩ | ⟨p, _, q, _, _, s', _, e⟩)
    · cases e
      rw [hp_one hP h hp]
      exact .inl ⟨rfl, rfl⟩
    · cases e
      rw [hp_one hP h hp]
      exact .inr ⟨rfl, rfl⟩
    · cases e
  · rintro (⟨rfl, rfl⟩ | ⟨rfl, rfl⟩)
    · exact .inl ⟨_, h, .inl rfl⟩
    · exact .inl ⟨_, h, .inr rfl⟩
theorem row_cr {P : List (Str × D)} (hP : HeapP P) {n m : Str} {s t : D} {z : Sp2} (h : (n, s) ∈ P) (g : (m, t) ∈ P) : RowOf P (z, .cr n m) ↔ ltS n m = true ∧ meetSp s t = some z := by
  constructor
  · rintro (⟨p, _, e | e⟩ | ⟨⟨n', s'⟩, hp, ⟨m', t'⟩, hq, l, z', e1, e⟩)
    · cases e
    · cases e
    · cases e
      rw [hp_one hP h hp, hp_one hP g hq]
      exact ⟨l, e1⟩
  · rintro ⟨l, e⟩
    exact .inr ⟨_, h, _, g, l, z, e, rfl⟩
theorem row_name {P : List (Str × D)} {z : Sp2} {n : Str} {b : Int} (h : RowOf P (z, .en n b)) : ∃ s, (n, s) ∈ P := by
  rcases h with ⟨⟨n', s'⟩, hp, e | e⟩ | ⟨p, _, q, _, _, s', _, e⟩
  · cases e; exact ⟨_, hp⟩
  · cases e; exact ⟨_, hp⟩
  · cases e
theorem row_names {P : List (Str × D)} {z : Sp2} {n m : Str} (h : RowOf P (z, .cr n m)) : (∃ s, (n, s) ∈ P) ∧ ∃ t, (m, t) ∈ P := by
  rcases h with ⟨p, _, e | e⟩ | ⟨⟨n', s'⟩, hp, ⟨m', t'⟩, hq, _, z', _, e⟩
  · cases e
  · cases e
  · cases e; exact ⟨⟨_, hp⟩, _, hq⟩
/-- the paper of a cause, judged -/
theorem judge_c {P : List (Str × D)} {Q : D → Prop} {z : Sp2} {c : Cs} (hP : HeapP P) (hc : LayN 1 (csD c)) (hb : ∀ n b, c = .en n b → b = 0 ∨ b = 1) (q : ∀ b : Bool, (b = true ↔ RowOf P (z, c)) → Q (.bl b)) : c_judge_heat [.dic (hpD P), tp z, csD c] Q := by
  unfold c_judge_heat
  cases c with
  | en n b =>
    have ok : PyData.strOk n = true := hc (.str n) (List.mem_cons_of_mem _ List.mem_cons_self)
    simp only [csD]
    walk_at "dv"
    refine ⟨lay_str ok_end, lay_str ok_cold, ?_⟩
    rw [if_neg ne_ec]
    refine ⟨hp_key, ?_⟩
    by_cases hn : ∃ s, (n, s) ∈ P
    · obtain ⟨s, hs⟩ := hn
      rw [hp_get hP.nd hs]
      walk_at "dv"
      rw [if_neg (by simp)]
      refine ⟨lay_str ok_end, lay_str ok_end, ?_⟩
      obtain ⟨a, b', c', d, ek, a0, a1, b0, b1, c0, c1, d0, d1, n1⟩ := hP.st _ hs
      refine hp_ix hP hs ?_
      have ek : s = _ := ek
      subst ek
      walk_at "dv"
      refine hp_ix hP hs ?_
      walk_at "dv"
      have rb := row_en hP (z := z) (b := b) hs
      have e1 := eqb_tp (s := z) (t := (a, b'))
      have e2 := eqb_tp (s := z) (t := (c', d))
      rcases hb n b rfl with rfl | rfl
      · walk_at "dv"
        refine ⟨lay_tp _, q _ ?_⟩
        show D.eqb (tp z) (tp (a, b')) = true ↔ _
        rw [e1, decide_eq_true_eq, rb]
        simp [oneSp]
      · walk_at "dv"
        refine ⟨lay_tp _, q _ ?_⟩
        show D.eqb (tp z) (tp (c', d)) = true ↔ _
        rw [e2, decide_eq_true_eq, rb]
        simp [twoSp]
    · rw [hp_no fun s h => hn ⟨s, h⟩]
      walk_at "dv"
      exact q false ⟨fun h => by simp at h, fun h => (hn (row_name h)).elim⟩
  | cr n m =>
    have ok : PyData.strOk n = true := hc (.str n) (List.mem_cons_of_mem _ List.mem_cons_self)
    have ok2 : PyData.strOk m = true := hc (.str m) (List.mem_cons_of_mem _ (List.mem_cons_of_mem _ List.mem_cons_self))
    simp only [csD]
    walk_at "dv"
    refine ⟨lay_str ok_cross, lay_str ok_cold, ?_⟩
    rw [if_neg ne_cc]
    refine ⟨hp_key, ?_⟩
    by_cases hn : ∃ s, (n, s) ∈ P
    · obtain ⟨s, hs⟩ := hn
      rw [hp_get hP.nd hs]
      walk_at "dv"
      rw [if_neg (by simp)]
      refine ⟨lay_str ok_cross, lay_str ok_end, ?_⟩
      rw [if_neg ne_ce]
      refine ⟨hp_key, ?_⟩
      by_cases hm : ∃ t, (m, t) ∈ P
      · obtain ⟨t, ht⟩ := hm
        rw [hp_get hP.nd ht, if_pos (by simp)]
        refine ltA_str ok ok2 ?_
        walk_at "dv"
        have rc := row_cr hP (z := z) hs ht
        by_cases l : ltS n m = true
        · rw [if_pos l]
          refine hp_ix hP hs ?_
          walk_at "dv"
          refine hp_ix hP ht ?_
          walk_at "dv"
          refine met_in_ok (hP.st _ hs) (hP.st _ ht) (q _ ?_)
          rw [decide_eq_true_eq, rc]
          exact ⟨fun e => ⟨l, e⟩, fun e => e.2⟩
        · rw [if_neg l]
          exact q false ⟨fun h => by simp at h, fun h => (l (rc.mp h).1).elim⟩
      · rw [hp_no fun s h => hm ⟨s, h⟩, if_neg (by simp)]
        exact q false ⟨fun h => by simp at h, fun h => (hm (row_names h).2).elim⟩
    · rw [hp_no fun s h => hn ⟨s, h⟩]
      walk_at "dv"
      exact q false ⟨fun h => by simp at h, fun h => (hn (row_names h).1).elim⟩
/-- the paper of a cold square, judged -/
theorem judge_n {P : List (Str × D)} {Q : D → Prop} {z : Sp2} {L : List Str} (hP : HeapP P) (hz : SpB z) (hL : ∀ x ∈ L, PyData.strOk x = true) (q : ∀ S, Ris P S → ∀ b : Bool, (b = true ↔ L = goersS S z ∧ ∀ c, ¬RowOf P (z, c)) → Q (.bl b)) :
    c_judge_heat [.dic (hpD P), tp z, .tup [.str "cold", .tup (L.map D.str)]] Q := by
  unfold c_judge_heat
  walk_at "dv"
  exact ⟨lay_str ok_cold, lay_str ok_cold, cold_right_ok hP hz hL q⟩

/-! ### the program's hot squares -/
theorem Cau.len8 {P : List (Str × D)} {R : List Row} (hf : P.length ≤ 8) (h : Cau P R) : R.length ≤ 44 := by
  obtain ⟨S, hS, p⟩ := h.of
  have hl : S.length ≤ 8 := by rw [hS.perm.length_eq]; exact hf
  have h2 := rowsP_len2 (r := S)
  have : S.length * (S.length + 3) ≤ 8 * 11 := Nat.mul_le_mul hl (by omega)
  rw [p.length_eq]
  omega
/-! ### the squares of all causes, by the strokes alone -/
def spL : List D → List Sp2
  | [] => []
  | s :: r => oneSp s :: twoSp s :: (r.filterMap (meetSp s) ++ spL r)
theorem rows_spL : ∀ S : List (Str × D), (rowsP S).map (·.1) = spL (S.map (·.2))
  | [] => rfl
  | p :: r => by
    have e : (crosses p r).map (·.1) = (r.map (·.2)).filterMap (meetSp p.2) := by
      unfold crosses
      rw [List.map_filterMap, List.filterMap_map]
      congr 1
      funext q
      simp only [Option.map_map, Function.comp_apply]
      cases meetSp p.2 q.2 <;> rfl
    rw [rowsP, List.map_append, List.map_append, rows_spL r, e, List.map_cons, spL]
    rfl
theorem meetSp_c {s t : D} (hs : StrokeOk s) (ht : StrokeOk t) : meetSp t s = meetSp s t := by
  obtain ⟨a, b, c, d, rfl, a0, a1, b0, b1, c0, c1, d0, d1, n1⟩ := hs
  obtain ⟨e, f, g, k, rfl, e0, e1, f0, f1, g0, g1, k0, k1, n2⟩ := ht
  show placeSp _ = placeSp _
  rw [meetD_c n1 n2]
theorem spL_perm {L L' : List D} (h : L.Perm L') : (∀ s ∈ L, StrokeOk s) → (spL L).Perm (spL L') := by
  induction h with
  | nil => intro _; exact .nil
  | cons s p ih =>
    intro hs
    exact ((p.filterMap (meetSp s)).append (ih fun t ht => hs t (List.mem_cons_of_mem _ ht))).cons _ |>.cons _
  | swap a b r =>
    intro hs
    have c := meetSp_c (hs a (List.mem_cons_of_mem _ List.mem_cons_self)) (hs b List.mem_cons_self)
    rw [List.perm_iff_count]
    intro x
    simp only [spL, List.filterMap_cons, c]
    cases meetSp a b <;> simp only [List.count_cons, List.count_append] <;> omega
  | trans p q ih1 ih2 =>
    intro hs
    exact (ih1 hs).trans (ih2 fun t ht => hs t (p.mem_iff.mpr ht))
theorem Cau.spots {P : List (Str × D)} {R : List Row} (hP : HeapP P) (h : Cau P R) : (R.map (·.1)).Perm (spL (P.map (·.2))) := by
  obtain ⟨S, hS, p⟩ := h.of
  refine (p.map (·.1)).trans ?_
  rw [rows_spL]
  refine spL_perm (hS.perm.map (·.2)) fun s hs => ?_
  obtain ⟨q, hq, rfl⟩ := List.mem_map.mp hs
  exact hP.st q (hS.perm.mem_iff.mp hq)
/-! ### tables, calls with keywords, sorted by a lambda key, dict comprehensions: rules -/
theorem e_fnT {T : List (Addr × Str)} {n m : Nat} {t : DS} {ds : List D} {Q : D → Prop} : fnT T n m t ds Q = (ds.length = m ∧ t ⟨k_non Q, Q, k_no, k_no, roL Q⟩ (ds.map Slot.v ++ List.replicate (n - 1 - m) Slot.un ++ [.tb T])) := rfl
theorem e_dCallT {j : Nat} {T : List (Addr × Str)} {f : DSp} {dd : List D} {tr : DA} {ρ : List Slot} {Q : D → Prop} : dCallT j T f dd tr ρ Q = (ρ[j]? = some (.tb T) ∧ tr ρ (k_dCall f dd Q)) := rfl
def k_tk2 (n m : Nat) (f : DSp) (ds : List D) (Q : D → Prop) (zs : List D) : Prop := ds.length = n ∧ zs.length = m ∧ f (ds ++ zs) Q
theorem k_tk2_q {n m : Nat} {f : DSp} {ds : List D} {Q : D → Prop} {zs : List D} : k_tk2 n m f ds Q zs = (ds.length = n ∧ zs.length = m ∧ f (ds ++ zs) Q) := rfl
def k_tk (tk : DA) (ρ : List Slot) (n m : Nat) (f : DSp) (Q : D → Prop) (ds : List D) : Prop := tk ρ (k_tk2 n m f ds Q)
theorem k_tk_q {tk : DA} {ρ : List Slot} {n m : Nat} {f : DSp} {Q : D → Prop} {ds : List D} : k_tk tk ρ n m f Q ds = tk ρ (k_tk2 n m f ds Q) := rfl
theorem e_dCallTK {j n m : Nat} {T : List (Addr × Str)} {f : DSp} {tr tk : DA} {ρ : List Slot} {Q : D → Prop} : dCallTK j T n m f tr tk ρ Q = (ρ[j]? = some (.tb T) ∧ tr ρ (k_tk tk ρ n m f Q)) := rfl
def k_dDc (g : DG) (tt : DT) (tk tv : DE) (ρ : List Slot) (Q : D → Prop) (ds : List D) : Prop := dcD g tt tk tv ρ ds [] Q
theorem k_dDc_q {g : DG} {tt : DT} {tk tv : DE} {ρ : List Slot} {Q : D → Prop} {ds : List D} : k_dDc g tt tk tv ρ Q ds = dcD g tt tk tv ρ ds [] Q := rfl
theorem e_dDc {it : DI} {g : DG} {tt : DT} {tk tv : DE} {vs : List Nat} {ρ : List Slot} {Q : D → Prop} : dDc it g tt tk tv vs ρ Q = it ρ (k_dDc g tt tk tv (wipeD ρ vs) Q) := rfl
def k_sK2 (ds : List D) (Q : D → Prop) (ks : List D) : Prop := KeysOk ks ∧ Q (.lst (sortBy ds ks))
def k_sK (te : DE) (i j : Nat) (T : List (Addr × Str)) (ρ : List Slot) (Q : D → Prop) : D → Prop
  | .lst ds => ρ[j]? = some (.tb T) ∧ keysL te i ρ ds [] (k_sK2 ds Q)
  | _ => False
theorem k_sK_l {te : DE} {i j : Nat} {T : List (Addr × Str)} {ρ : List Slot} {Q : D → Prop} {ds : List D} : k_sK te i j T ρ Q (.lst ds) = (ρ[j]? = some (.tb T) ∧ keysL te i ρ ds [] (k_sK2 ds Q)) := rfl
theorem e_dSortK {t te : DE} {i j : Nat} {T : List (Addr × Str)} {ρ : List Slot} {Q : D → Prop} : dSortK t te i j T ρ Q = t ρ (k_sK te i j T ρ Q) := by
  unfold dSortK
  congr 1
theorem notInTD_t {x : D} {ds : List D} {Q : D → Prop} : notInTD x (.tup ds) Q = (x.lay = true ∧ (D.tup ds).lay = true ∧ Q (.bl (!ds.any fun z => D.eqb z x))) := rfl
/-- rising by the numbers k, stably -/
def byI {α : Type} (k : α → Int) (xs : List α) : List α := xs.mergeSort fun a b => decide (k a ≤ k b)
section
variable {α : Type} {k : α → Int}
theorem leI_tr : ∀ a b c : α, decide (k a ≤ k b) = true → decide (k b ≤ k c) = true → decide (k a ≤ k c) = true := fun a b c h g => by
  simp only [decide_eq_true_eq] at h g ⊢
  omega
theorem leI_to : ∀ a b : α, (decide (k a ≤ k b) || decide (k b ≤ k a)) = true := fun a b => by
  simp only [Bool.or_eq_true, decide_eq_true_eq]
  omega
theorem byI_perm (xs : List α) : (byI k xs).Perm xs := List.mergeSort_perm _ _
theorem mem_byI {xs : List α} {a : α} : a ∈ byI k xs ↔ a ∈ xs := (byI_perm xs).mem_iff
theorem byI_up (xs : List α) : (byI k xs).Pairwise fun a b => k a ≤ k b :=
  (List.pairwise_mergeSort leI_tr leI_to xs).imp fun h => of_decide_eq_true h
end
end DV

namespace DV
open PySem PySem.Spec PyProof.Rows L2
local macro_rules | `(tactic| walk_at "dv") => `(tactic| simp (config := { failIfUnchanged := false, implicitDefEqProofs := false }) only [↓e_fnT, ↓e_dCallT, ↓k_tk2_q, ↓k_tk_q, ↓e_dCallTK, ↓k_dDc_q, ↓e_dDc, ↓k_sK_l, ↓e_dSortK, ↓notInTD_t, ↓k_zipL_q, ↓e_dZipL, ↓k_zip_q, ↓e_iZipD, ↓k_enum_q, ↓e_iEnumD, ↓k_keys_q, ↓e_iKeysD, ↓k_vals_q, ↓e_iValsD, ↓k_items_q, ↓e_iItemsD, ↓k_tru_q, ↓e_dTru, ↓truD_l, ↓truD_t, ↓truD_b, ↓truD_n, ↓k_rev_q, ↓e_sRev, ↓k_clr_q, ↓e_sClr, ↓k_ins3_q, ↓k_ins2_q, ↓k_ins_q, ↓e_sIns, ↓k_move_q, ↓e_sMove, ↓k_lc2_q, ↓e_dLc2, ↓inTD_t, ↓notBD_bb, ↓dictK_d, fgs_n, fgs_c, fg_v, fg_t, fg_u, fg_o, ↓k_rtNl_q, ↓k_sSetO_q, ↓k_sRetO_q, ↓k_nl_q, ↓k_nls_q, ↓k_nlc_q, ↓k_back_q, ↓k_lend_q, ↓k_put2_q, ↓k_put1_q, ↓k_put_q, ↓e_fnO, ↓e_sSetO, ↓e_sRetO, ↓e_dBor, ↓e_dBorO, ↓e_dBorA, ↓e_dBorT, ↓frz_0u, ↓frz_0t, ↓e_sLend, ↓ownK_o, ↓e_sPutD, ↓e_dD0, ↓inKD_d, ↓notInKD_d, ↓k_for_q, ↓e_for_n, ↓e_for_c, ↓k_sAppend1_q, ↓k_sAppend_q, ↓k_sRetOwn_q, ↓k_sPar2_q, ↓k_sPar_q, ↓k_sPar33_q, ↓k_sPar3_q, ↓k_some_q, ↓k_asI_q, ↓k_asS_q, ↓k_rng1_q, ↓k_one_q, ↓k_rng22_q, ↓k_rng21_q, ↓k_rng2_q, ↓k_two_q, ↓k_non_q, ↓k_no_q, ↓k_sSet_q, ↓k_sAsg_q, ↓k_sAsg2_q, ↓k_sIf_q, ↓k_sDrop_q, ↓k_sOwn_q, ↓k_sFor_q, ↓k_gs_q, ↓k_dOp2_q, ↓k_dOp_q, ↓k_dCh4_q, ↓k_dCh3_q, ↓k_dCh2_q, ↓k_dCh1_q, ↓k_dUn_q, ↓k_dTest_q, ↓k_dAnd_q, ↓k_dOr_q, ↓k_dNot_q, ↓k_dAndV_q, ↓k_dOrV_q, ↓k_dIf_q, ↓k_dCons2_q, ↓k_dCons_q, ↓k_dTup_q, ↓k_dLst_q, ↓k_dCall_q, ↓k_dIsi_q, ↓k_dIsi2_q, ↓k_dSl3_q, ↓k_dSl2_q, ↓k_dSl_q, ↓k_dRev_q, ↓k_s3_q, ↓k_s3a_q, ↓k_s3b_q, ↓k_s3c_q, ↓e_dSl3, ↓sl3_r2, ↓sl3_rl, ↓k_dLc_q, ↓k_dB_q, ↓chB_b, ↓tsB_b, ↓dVar_s, ↓ownL_o, ↓ownD_o, ↓roL_l, ↓e_sAppend, ↓e_sRetOwn, ↓two_2, ↓three_3, ↓e_sPar, ↓e_sPar3, ↓asI_i, ↓e_dPart, ↓asS_l, ↓asS_t, ↓e_iSeq, ↓one_1, ↓e_iRng1D, ↓e_iRng2D, ↓wipeD_n, ↓wipeD_c, ↓frz_0, ↓frz_0v, ↓frz_s, ↓e_fnD, ↓e_sSeq, ↓e_sNext, ↓e_sBreak, ↓e_sCont, ↓e_sSet, ↓e_sAsg, ↓e_sAsg2, ↓e_sIf, ↓e_sRet, ↓e_sRetN, ↓e_sDrop, ↓e_sNever, ↓e_sOwn, ↓e_sFrz, ↓e_sFor, ↓e_gN, ↓e_gT_t, ↓e_gsNil_n, ↓e_gsCons_c, ↓e_dVar_0, ↓e_dVar_0t, ↓e_dC, ↓e_dOp, ↓e_dChain, ↓e_dUn, ↓e_dTest, ↓e_dAnd, ↓e_dOr, ↓e_dNot, ↓e_dAndV, ↓e_dOrV, ↓e_dIf, ↓e_dNil, ↓e_dCons, ↓e_dTup, ↓e_dLst, ↓e_dCall, ↓e_dB, ↓e_dIsi, ↓e_dIsi2, ↓e_dSl, ↓e_dRev, ↓e_dNo, ↓e_dYes, ↓e_dLc,
  ↓addD_ii, ↓addD_tt, ↓addD_ll, ↓subD_ii, ↓mulD_ii, ↓fdivD_ii, ↓modD_ii, ↓powD_10_9, ↓powD_10_6, ↓ltA_ii, ↓leA_ii, ↓gtA_ii, ↓geA_ii, ↓ltA_t2, ↓leA_t2, ↓gtA_t2, ↓geA_t2, ↓max2A_ii, ↓min2A_ii, ↓slh4, ↓slt4', ↓max2A_c, ↓min2A_c, ↓revD_l, ↓isNon_n, ↓isNon_t, ↓isNon_l, ↓notNon_n, ↓notNon_t, ↓isBD_bb, ↓negD_i, ↓notD_b, ↓absD_i, ↓intC_i, ↓intC_b, ↓lenD_l, ↓lenD_t, ↓listD_l, ↓listD_t, ↓tupleD_l, ↓tupleD_t, ↓allD_l, ↓anyD_l, ↓ixT0, ↓ixT1, ↓ixT2, ↓ixT3, ↓ixL0, ↓ixL1, ↓ixL2, ↓ixL3, ↓slD_l,
  eqD, neD,  sl0, sl1, sl2, sl3, sl4, sl5, sl6, sl7, sl8, sl9, sl10, sl11, sl12, slt0, slt1, slt2, slt3, slt4, slt5, slt6, slt7, slt8, slt9, slt10, slt11, slt12, lay_i, lay_b, lay_n, lay_t0, lay_l0, lay_t2, lay_t4, eqb_ii, eqb_bb, eqb_ss, eqb_nn, eqb_tt, eqb_ll, eqbs_nn, eqbs_cc, eqbs_nc, eqbs_cn, tag_n, tag_c, tagS_v, tagS_u, tagS_o, tagS_t, back_n, back_c, backS_vt, backS_tt, backS_ot, backS_ut, backS_u, backS_v, backS_l, backS_d, ownS_l, ownS_d, ownS_t, ownS_i, ownS_n, noLst_l, noLst_i, noLst_b, noLst_s, noLst_n, noLst_d, noLst_t, noLsts_n, noLsts_c, nlc_l, nlc_d, nlc_i, nlc_b, nlc_t, tyOk_n, tyOk_b, tyOk_i, tyOk_s, tyOk_t, tyOk_l, isi_n, isi_b, isi_i, isi_s, isi_t, isi_l,
  List.map_cons, List.map_nil, List.cons_append, List.nil_append, List.append_nil, List.append_assoc, List.length_cons, List.length_nil, List.getElem?_cons_zero, List.getElem?_cons_succ, List.set_cons_zero, List.set_cons_succ, List.replicate, Nat.reduceAdd, Nat.reduceSub, Nat.zero_add, Nat.reduceLeDiff, Nat.reduceEqDiff,
  if_true, if_false, true_and, and_true, and_self, Bool.not_true, Bool.not_false, Bool.false_eq_true, Bool.and_true, Bool.true_and, Bool.or_false, Bool.false_or, Bool.or_true, Bool.true_or, decide_eq_true_eq, decide_true, decide_false, beq_self_eq_true, beq_iff_eq, String.reduceEq, reduceIte, reduceCtorEq])
local macro_rules | `(tactic| walk_at "dw") => `(tactic| simp (config := { failIfUnchanged := false, implicitDefEqProofs := false }) only [↓e_fnT, ↓e_dCallT, ↓k_tk2_q, ↓k_tk_q, ↓e_dCallTK, ↓k_dDc_q, ↓e_dDc, ↓k_sK_l, ↓e_dSortK, ↓notInTD_t, ↓k_zipL_q, ↓e_dZipL, ↓k_zip_q, ↓e_iZipD, ↓k_enum_q, ↓e_iEnumD, ↓k_keys_q, ↓e_iKeysD, ↓k_vals_q, ↓e_iValsD, ↓k_items_q, ↓e_iItemsD, ↓k_tru_q, ↓e_dTru, ↓truD_l, ↓truD_t, ↓truD_b, ↓truD_n, ↓k_rev_q, ↓e_sRev, ↓k_clr_q, ↓e_sClr, ↓k_ins3_q, ↓k_ins2_q, ↓k_ins_q, ↓e_sIns, ↓k_move_q, ↓e_sMove, ↓k_lc2_q, ↓e_dLc2, ↓inTD_t, ↓notBD_bb, ↓dictK_d, fgs_n, fgs_c, fg_v, fg_t, fg_u, fg_o, ↓k_rtNl_q, ↓k_sSetO_q, ↓k_sRetO_q, ↓k_nl_q, ↓k_nls_q, ↓k_nlc_q, ↓k_back_q, ↓k_lend_q, ↓k_put2_q, ↓k_put1_q, ↓k_put_q, ↓e_fnO, ↓e_sSetO, ↓e_sRetO, ↓e_dBor, ↓e_dBorO, ↓e_dBorA, ↓e_dBorT, ↓frz_0u, ↓frz_0t, ↓e_sLend, ↓ownK_o, ↓e_sPutD, ↓e_dD0, ↓inKD_d, ↓notInKD_d, ↓k_for_q, ↓k_sAppend1_q, ↓k_sAppend_q, ↓k_sRetOwn_q, ↓k_sPar2_q, ↓k_sPar_q, ↓k_sPar33_q, ↓k_sPar3_q, ↓k_some_q, ↓k_asI_q, ↓k_asS_q, ↓k_rng1_q, ↓k_one_q, ↓k_rng22_q, ↓k_rng21_q, ↓k_rng2_q, ↓k_two_q, ↓k_non_q, ↓k_no_q, ↓k_sSet_q, ↓k_sAsg_q, ↓k_sAsg2_q, ↓k_sIf_q, ↓k_sDrop_q, ↓k_sOwn_q, ↓k_sFor_q, ↓k_gs_q, ↓k_dOp2_q, ↓k_dOp_q, ↓k_dCh4_q, ↓k_dCh3_q, ↓k_dCh2_q, ↓k_dCh1_q, ↓k_dUn_q, ↓k_dTest_q, ↓k_dAnd_q, ↓k_dOr_q, ↓k_dNot_q, ↓k_dAndV_q, ↓k_dOrV_q, ↓k_dIf_q, ↓k_dCons2_q, ↓k_dCons_q, ↓k_dTup_q, ↓k_dLst_q, ↓k_dCall_q, ↓k_dIsi_q, ↓k_dIsi2_q, ↓k_dSl3_q, ↓k_dSl2_q, ↓k_dSl_q, ↓k_dRev_q, ↓k_s3_q, ↓k_s3a_q, ↓k_s3b_q, ↓k_s3c_q, ↓e_dSl3, ↓sl3_r2, ↓sl3_rl, ↓k_dLc_q, ↓k_dB_q, ↓chB_b, ↓tsB_b, ↓dVar_s, ↓ownL_o, ↓ownD_o, ↓roL_l, ↓e_sAppend, ↓e_sRetOwn, ↓two_2, ↓three_3, ↓e_sPar, ↓e_sPar3, ↓asI_i, ↓e_dPart, ↓asS_l, ↓asS_t, ↓e_iSeq, ↓one_1, ↓e_iRng1D, ↓e_iRng2D, ↓wipeD_n, ↓wipeD_c, ↓frz_0, ↓frz_0v, ↓frz_s, ↓e_fnD, ↓e_sSeq, ↓e_sNext, ↓e_sBreak, ↓e_sCont, ↓e_sSet, ↓e_sAsg, ↓e_sAsg2, ↓e_sIf, ↓e_sRet, ↓e_sRetN, ↓e_sDrop, ↓e_sNever, ↓e_sOwn, ↓e_sFrz, ↓e_sFor, ↓e_gN, ↓e_gT_t, ↓e_gsNil_n, ↓e_gsCons_c, ↓e_dVar_0, ↓e_dVar_0t, ↓e_dC, ↓e_dOp, ↓e_dChain, ↓e_dUn, ↓e_dTest, ↓e_dAnd, ↓e_dOr, ↓e_dNot, ↓e_dAndV, ↓e_dOrV, ↓e_dIf, ↓e_dNil, ↓e_dCons, ↓e_dTup, ↓e_dLst, ↓e_dCall, ↓e_dB, ↓e_dIsi, ↓e_dIsi2, ↓e_dSl, ↓e_dRev, ↓e_dNo, ↓e_dYes, ↓e_dLc,
  ↓addD_ii, ↓addD_tt, ↓addD_ll, ↓subD_ii, ↓mulD_ii, ↓fdivD_ii, ↓modD_ii, ↓powD_10_9, ↓powD_10_6, ↓ltA_ii, ↓leA_ii, ↓gtA_ii, ↓geA_ii, ↓ltA_t2, ↓leA_t2, ↓gtA_t2, ↓geA_t2, ↓max2A_ii, ↓min2A_ii, ↓slh4, ↓slt4', ↓max2A_c, ↓min2A_c, ↓revD_l, ↓isNon_n, ↓isNon_t, ↓isNon_l, ↓notNon_n, ↓notNon_t, ↓isBD_bb, ↓negD_i, ↓notD_b, ↓absD_i, ↓intC_i, ↓intC_b, ↓lenD_l, ↓lenD_t, ↓listD_l, ↓listD_t, ↓tupleD_l, ↓tupleD_t, ↓allD_l, ↓anyD_l, ↓ixT0, ↓ixT1, ↓ixT2, ↓ixT3, ↓ixL0, ↓ixL1, ↓ixL2, ↓ixL3, ↓slD_l,
  eqD, neD,  sl0, sl1, sl2, sl3, sl4, sl5, sl6, sl7, sl8, sl9, sl10, sl11, sl12, slt0, slt1, slt2, slt3, slt4, slt5, slt6, slt7, slt8, slt9, slt10, slt11, slt12, lay_i, lay_b, lay_n, lay_t0, lay_l0, lay_t2, lay_t4, eqb_ii, eqb_bb, eqb_ss, eqb_nn, eqb_tt, eqb_ll, eqbs_nn, eqbs_cc, eqbs_nc, eqbs_cn, tag_n, tag_c, tagS_v, tagS_u, tagS_o, tagS_t, back_n, back_c, backS_vt, backS_tt, backS_ot, backS_ut, backS_u, backS_v, backS_l, backS_d, ownS_l, ownS_d, ownS_t, ownS_i, ownS_n, noLst_l, noLst_i, noLst_b, noLst_s, noLst_n, noLst_d, noLst_t, noLsts_n, noLsts_c, nlc_l, nlc_d, nlc_i, nlc_b, nlc_t, tyOk_n, tyOk_b, tyOk_i, tyOk_s, tyOk_t, tyOk_l, isi_n, isi_b, isi_i, isi_s, isi_t, isi_l,
  List.map_cons, List.map_nil, List.cons_append, List.nil_append, List.append_nil, List.append_assoc, List.length_cons, List.length_nil, List.getElem?_cons_zero, List.getElem?_cons_succ, List.set_cons_zero, List.set_cons_succ, List.replicate, Nat.reduceAdd, Nat.reduceSub, Nat.zero_add, Nat.reduceLeDiff, Nat.reduceEqDiff,
  if_true, if_false, true_and, and_true, and_self, Bool.not_true, Bool.not_false, Bool.false_eq_true, Bool.and_true, Bool.true_and, Bool.or_false, Bool.false_or, Bool.or_true, Bool.true_or, decide_eq_true_eq, decide_true, decide_false, beq_self_eq_true, beq_iff_eq, String.reduceEq, reduceIte, reduceCtorEq])
/-! ### bent rows -/
def alI (a b c d : Int) (z : Sp2) : Int := sgn (c - a) * z.1 + sgn (d - b) * z.2
def alS : D → Sp2 → Int
  | .tup [.int a, .int b, .int c, .int d], z => alI a b c d z
  | _, _ => 0
noncomputable def bentL (s : D) (Z : List Sp2) : List Sp2 := byI (alS s) (Z.filter (goB s))
/-! ### all rows -/
def rowKV {α : Type} (kf : α → Str) (vf : α → D) (x : α) : D × D := (.str (kf x), vf x)
/-! ### the heaps of the laws on layings -/
theorem HeapP.flt {P : List (Str × D)} (hP : HeapP P) (p : Str × D → Bool) : HeapP (P.filter p) :=
  ⟨(List.filter_sublist.map _).nodup hP.nd, fun q hq => hP.st q (List.mem_filter.mp hq).1, Nat.le_trans (List.length_filter_le _ _) hP.few, fun q hq => hP.ok q (List.mem_filter.mp hq).1⟩
/-! ### dicts by name -/
theorem rk_flt {α : Type} {kf : α → Str} {vf : α → D} {xs : List α} : ∀ q ∈ xs.map (rowKV kf vf), q.1.flt = true := fun q hq => by
  obtain ⟨x, _, rfl⟩ := List.mem_map.mp hq
  rfl
theorem rk_merge {α : Type} {kf : α → Str} {vf : α → D} : ∀ (xs ys : List α), ((ys ++ xs).map kf).Nodup → mergeD (ys.map (rowKV kf vf)) (xs.map (rowKV kf vf)) = (ys ++ xs).map (rowKV kf vf)
  | [], ys, _ => by rw [List.append_nil]; rfl
  | x :: xs, ys, nd => by
    have hn : ∀ q ∈ ys.map (rowKV kf vf), D.eqb q.1 (.str (kf x)) = false := fun q hq => by
      obtain ⟨y, hy, rfl⟩ := List.mem_map.mp hq
      show D.eqb (.str (kf y)) (.str (kf x)) = false
      rw [eqb_str]
      refine decide_eq_false fun z => ?_
      rw [List.map_append, List.nodup_append] at nd
      exact nd.2.2 _ (List.mem_map.mpr ⟨y, hy, rfl⟩) _ (List.mem_map.mpr ⟨x, List.mem_cons_self, rfl⟩) z
    have e3 : ys ++ x :: xs = (ys ++ [x]) ++ xs := by rw [List.append_assoc]; rfl
    rw [e3] at nd ⊢
    have e : dputD (ys.map (rowKV kf vf)) (.str (kf x)) (vf x) = (ys ++ [x]).map (rowKV kf vf) := by
      rw [put_new hn, List.map_append]
      rfl
    show mergeD (dputD (ys.map (rowKV kf vf)) (.str (kf x)) (vf x)) (xs.map (rowKV kf vf)) = _
    rw [e]
    exact rk_merge xs (ys ++ [x]) nd
theorem rk_dict {α : Type} {kf : α → Str} {vf : α → D} {xs : List α} {Q : D → Prop} (nd : (xs.map kf).Nodup) (q : Q (.dic (xs.map (rowKV kf vf)))) : dictC [.lst (xs.map fun x => D.tup [.str (kf x), vf x])] Q := by
  refine ⟨xs.map (rowKV kf vf), by rw [List.map_map]; rfl, .inl rk_flt, ?_⟩
  have e : mergeD [] (xs.map (rowKV kf vf)) = xs.map (rowKV kf vf) := rk_merge xs [] nd
  rw [e]
  exact q
theorem lcD_mp {α : Type} {g : DG} {te : DE} {ρ : List Slot} (e f : α → D) (xs : List α) (Q : D → Prop) (h : ∀ x ∈ xs, ∀ Q1 : D → Prop, Q1 (f x) → g (e x) ρ fun ρ2 => te ρ2 Q1) (hl : xs.length ≤ sizeLine) (q : Q (.lst (xs.map f))) : lcD g dYes te ρ (xs.map e) [] Q := by
  refine lcD_fm e (fun x => some (f x)) xs [] Q (fun x hx Q1 Q2 k1 k2 => ?_) (by rw [List.length_nil]; omega) ?_
  · exact h x hx Q1 (k1 _ rfl)
  · have e1 : (xs.filterMap fun x => some (f x)) = xs.map f := by
      clear h hl q
      induction xs with
      | nil => rfl
      | cons x xs ih => simp [ih]
    rw [e1]
    exact q
/-! ### squares that a stroke goes through, in order along it -/
theorem sgn_p {i : Int} (h : 0 < i) : sgn i = 1 := by
  unfold sgn
  rw [if_pos h, if_neg (by omega)]
  rfl
theorem sgn_n {i : Int} (h : i < 0) : sgn i = -1 := by
  unfold sgn
  rw [if_neg (by omega), if_pos h]
  rfl
theorem sgn_z : sgn 0 = 0 := by
  unfold sgn
  rfl
theorem inX_lo {x dx m p q : Int} (q0 : 0 < q) (p0 : 0 ≤ p) (p1 : p ≤ q) (h : inX x dx m p q) : 0 ≤ sgn dx * (m - x) ∧ 0 ≤ sgn dx * (x + dx - m) ∧ (dx = 0 → m = x) := by
  unfold inX at h
  obtain ⟨h1, h2⟩ := h
  have e1 : 2 * x * q = 2 * (x * q) := by grind
  have e2 : 2 * dx * p = 2 * (dx * p) := by grind
  rcases Int.lt_trichotomy dx 0 with g | g | g
  · rw [sgn_n g]
    have a1 : 0 ≤ (-dx) * p := Int.mul_nonneg (by omega) p0
    have a2 : 0 ≤ (-dx) * (q - p) := Int.mul_nonneg (by omega) (by omega)
    have b1 : (2 * m - 1) * q ≤ (2 * x) * q := by
      have : (-dx) * p = -(dx * p) := by grind
      omega
    have b2 : (2 * x + 2 * dx) * q < (2 * m + 1) * q := by
      have : (-dx) * (q - p) = dx * p - dx * q := by grind
      have : (2 * x + 2 * dx) * q = 2 * (x * q) + 2 * (dx * q) := by grind
      omega
    have c1 := (mul_le_iff q0).mp b1
    have c2 := (mul_lt_iff q0).mp b2
    refine ⟨by omega, by omega, fun z => by omega⟩
  · subst g
    rw [sgn_z]
    rw [Int.mul_zero, Int.zero_mul, Int.add_zero] at h1 h2
    have c1 := (mul_le_iff q0).mp h1
    have c2 := (mul_lt_iff q0).mp h2
    exact ⟨by omega, by omega, fun _ => by omega⟩
  · rw [sgn_p g]
    have a1 : 0 ≤ dx * p := Int.mul_nonneg (by omega) p0
    have a2 : 0 ≤ dx * (q - p) := Int.mul_nonneg (by omega) (by omega)
    have b1 : (2 * x) * q < (2 * m + 1) * q := by omega
    have b2 : (2 * m - 1) * q ≤ (2 * x + 2 * dx) * q := by
      have : dx * (q - p) = dx * q - dx * p := by grind
      have : (2 * x + 2 * dx) * q = 2 * (x * q) + 2 * (dx * q) := by grind
      omega
    have c1 := (mul_lt_iff q0).mp b1
    have c2 := (mul_le_iff q0).mp b2
    refine ⟨by omega, by omega, fun z => by omega⟩
theorem inX_ord {x dx m n p q r u : Int} (q0 : 0 < q) (u0 : 0 < u) (h : inX x dx m p q) (g : inX x dx n r u) (le : p * u ≤ r * q) : 0 ≤ sgn dx * (n - m) := by
  unfold inX at h g
  obtain ⟨h1, h2⟩ := h
  obtain ⟨g1, g2⟩ := g
  have qu : 0 < q * u := Int.mul_pos q0 u0
  have H1 := Int.mul_le_mul_of_nonneg_right h1 (Int.le_of_lt u0)
  have H2 := Int.mul_lt_mul_of_pos_right h2 u0
  have G1 := Int.mul_le_mul_of_nonneg_right g1 (Int.le_of_lt q0)
  have G2 := Int.mul_lt_mul_of_pos_right g2 q0
  have e1 : (2 * x * q + 2 * dx * p) * u = 2 * (x * (q * u)) + 2 * (dx * (p * u)) := by grind
  have e2 : (2 * x * u + 2 * dx * r) * q = 2 * (x * (q * u)) + 2 * (dx * (r * q)) := by grind
  have e3 : (2 * m - 1) * q * u = (2 * m - 1) * (q * u) := by grind
  have e4 : (2 * m + 1) * q * u = (2 * m + 1) * (q * u) := by grind
  have e5 : (2 * n - 1) * u * q = (2 * n - 1) * (q * u) := by grind
  have e6 : (2 * n + 1) * u * q = (2 * n + 1) * (q * u) := by grind
  rw [e1] at H1 H2
  rw [e2] at G1 G2
  rw [e3] at H1
  rw [e4] at H2
  rw [e5] at G1
  rw [e6] at G2
  rcases Int.lt_trichotomy dx 0 with k | k | k
  · rw [sgn_n k]
    have : 0 ≤ (-dx) * (r * q - p * u) := Int.mul_nonneg (by omega) (by omega)
    have : (-dx) * (r * q - p * u) = dx * (p * u) - dx * (r * q) := by grind
    have : (2 * n - 1) * (q * u) < (2 * m + 1) * (q * u) := by omega
    have := (mul_lt_iff qu).mp this
    omega
  · subst k
    rw [sgn_z]
    omega
  · rw [sgn_p k]
    have : 0 ≤ dx * (r * q - p * u) := Int.mul_nonneg (by omega) (by omega)
    have : dx * (r * q - p * u) = dx * (r * q) - dx * (p * u) := by grind
    have : (2 * m - 1) * (q * u) < (2 * n + 1) * (q * u) := by omega
    have := (mul_lt_iff qu).mp this
    omega
/-- between the ends, by the stroke's own directions -/
theorem goes_lo {a b c d m n : Int} (h : GoesP a b c d m n) : (0 ≤ sgn (c - a) * (m - a) ∧ 0 ≤ sgn (c - a) * (c - m) ∧ (c = a → m = a)) ∧ 0 ≤ sgn (d - b) * (n - b) ∧ 0 ≤ sgn (d - b) * (d - n) ∧ (d = b → n = b) := by
  obtain ⟨p, q, q0, p0, p1, h1, h2⟩ := h
  obtain ⟨a1, a2, a3⟩ := inX_lo q0 p0 p1 h1
  obtain ⟨b1, b2, b3⟩ := inX_lo q0 p0 p1 h2
  rw [show a + (c - a) - m = c - m by omega] at a2
  rw [show b + (d - b) - n = d - n by omega] at b2
  exact ⟨⟨a1, a2, fun e => a3 (by omega)⟩, b1, b2, fun e => b3 (by omega)⟩
theorem goes_ord {a b c d m n k l : Int} (h : GoesP a b c d m n) (g : GoesP a b c d k l) : (0 ≤ sgn (c - a) * (k - m) ∧ 0 ≤ sgn (d - b) * (l - n)) ∨ (0 ≤ sgn (c - a) * (m - k) ∧ 0 ≤ sgn (d - b) * (n - l)) := by
  obtain ⟨p, q, q0, p0, p1, h1, h2⟩ := h
  obtain ⟨r, u, u0, r0, r1, g1, g2⟩ := g
  rcases Int.le_total (p * u) (r * q) with le | le
  · exact .inl ⟨inX_ord q0 u0 h1 g1 le, inX_ord q0 u0 h2 g2 le⟩
  · exact .inr ⟨inX_ord u0 q0 g1 h1 le, inX_ord u0 q0 g2 h2 le⟩
theorem sgn_ne {i : Int} (h : i ≠ 0) : sgn i = 1 ∨ sgn i = -1 := by
  rcases Int.lt_trichotomy i 0 with g | g | g
  · exact .inr (sgn_n g)
  · exact absurd g h
  · exact .inl (sgn_p g)
theorem sgn_0 {i m k : Int} (h : sgn i * (k - m) = 0) (g : i = 0 → m = k) : m = k := by
  by_cases e : i = 0
  · exact g e
  · rcases sgn_ne e with s | s <;> rw [s] at h <;> omega
theorem alI_eq {a b c d : Int} {z w : Sp2} : alI a b c d w - alI a b c d z = sgn (c - a) * (w.1 - z.1) + sgn (d - b) * (w.2 - z.2) := by
  unfold alI
  grind
theorem al_le {a b c d : Int} {z w : Sp2} (h : GoesP a b c d z.1 z.2) (g : GoesP a b c d w.1 w.2) (le : alI a b c d z ≤ alI a b c d w) : 0 ≤ sgn (c - a) * (w.1 - z.1) ∧ 0 ≤ sgn (d - b) * (w.2 - z.2) := by
  have e := alI_eq (a := a) (b := b) (c := c) (d := d) (z := z) (w := w)
  rcases goes_ord h g with r | ⟨r1, r2⟩
  · exact r
  · have e1 : sgn (c - a) * (z.1 - w.1) = -(sgn (c - a) * (w.1 - z.1)) := by grind
    have e2 : sgn (d - b) * (z.2 - w.2) = -(sgn (d - b) * (w.2 - z.2)) := by grind
    omega
theorem al_inj {a b c d : Int} {z w : Sp2} (h : GoesP a b c d z.1 z.2) (g : GoesP a b c d w.1 w.2) (e : alI a b c d z = alI a b c d w) : z = w := by
  have e0 := alI_eq (a := a) (b := b) (c := c) (d := d) (z := z) (w := w)
  obtain ⟨l1, l2⟩ := al_le h g (Int.le_of_eq e)
  have z1 : sgn (c - a) * (w.1 - z.1) = 0 := by omega
  have z2 : sgn (d - b) * (w.2 - z.2) = 0 := by omega
  obtain ⟨⟨_, _, h1⟩, _, _, h2⟩ := goes_lo h
  obtain ⟨⟨_, _, g1⟩, _, _, g2⟩ := goes_lo g
  exact Prod.ext (sgn_0 z1 fun k => by rw [h1 (by omega), g1 (by omega)]) (sgn_0 z2 fun k => by rw [h2 (by omega), g2 (by omega)])
/-! ### a bent row: from end to end, along the stroke -/
theorem mem_bent {s : D} {Z : List Sp2} {z : Sp2} : z ∈ bentL s Z ↔ z ∈ Z ∧ goB s z = true := by
  unfold bentL
  rw [mem_byI, List.mem_filter]
theorem bent_up {s : D} {Z : List Sp2} : (bentL s Z).Pairwise fun z w => alS s z ≤ alS s w := byI_up _
theorem alS_min {s : D} (hs : StrokeOk s) {z : Sp2} (h : goB s z = true) : alS s (oneSp s) ≤ alS s z ∧ alS s z ≤ alS s (twoSp s) := by
  obtain ⟨a, b, c, d, rfl, _⟩ := hs
  obtain ⟨⟨h1, h2, _⟩, h3, h4, _⟩ := goes_lo (goB_iff.mp h)
  have e1 := alI_eq (a := a) (b := b) (c := c) (d := d) (z := (a, b)) (w := z)
  have e2 := alI_eq (a := a) (b := b) (c := c) (d := d) (z := z) (w := (c, d))
  have e1 : alI a b c d z - alI a b c d (a, b) = sgn (c - a) * (z.1 - a) + sgn (d - b) * (z.2 - b) := e1
  have e2 : alI a b c d (c, d) - alI a b c d z = sgn (c - a) * (c - z.1) + sgn (d - b) * (d - z.2) := e2
  show alI a b c d (a, b) ≤ alI a b c d z ∧ alI a b c d z ≤ alI a b c d (c, d)
  omega
theorem alS_inj {s : D} (hs : StrokeOk s) {z w : Sp2} (h : goB s z = true) (g : goB s w = true) (e : alS s z = alS s w) : z = w := by
  obtain ⟨a, b, c, d, rfl, _⟩ := hs
  exact al_inj (goB_iff.mp h) (goB_iff.mp g) e
theorem bent_head {s : D} {Z : List Sp2} (hs : StrokeOk s) (h : oneSp s ∈ Z) : ∃ r, bentL s Z = oneSp s :: r := by
  have m : oneSp s ∈ bentL s Z := mem_bent.mpr ⟨h, (goes_end hs).1⟩
  have up := bent_up (s := s) (Z := Z)
  have gb : ∀ z ∈ bentL s Z, goB s z = true := fun z hz => (mem_bent.mp hz).2
  cases e : bentL s Z with
  | nil => rw [e] at m; cases m
  | cons x r =>
    rw [e] at m up gb
    have gx := gb x List.mem_cons_self
    have le : alS s x ≤ alS s (oneSp s) := by
      rcases List.mem_cons.mp m with q | q
      · rw [q]; omega
      · exact (List.pairwise_cons.mp up).1 _ q
    have := alS_inj hs gx (goes_end hs).1 (by have := (alS_min hs gx).1; omega)
    exact ⟨r, by rw [this]⟩
theorem bent_last {s : D} {Z : List Sp2} (hs : StrokeOk s) (h : twoSp s ∈ Z) : ∃ r, bentL s Z = r ++ [twoSp s] := by
  have m : twoSp s ∈ bentL s Z := mem_bent.mpr ⟨h, (goes_end hs).2⟩
  have up := bent_up (s := s) (Z := Z)
  have gb : ∀ z ∈ bentL s Z, goB s z = true := fun z hz => (mem_bent.mp hz).2
  have ne : bentL s Z ≠ [] := fun z => by rw [z] at m; cases m
  have e := (List.dropLast_concat_getLast ne).symm
  rw [e] at m up gb
  have gx := gb _ (List.mem_append_right _ List.mem_cons_self)
  have le : alS s (twoSp s) ≤ alS s ((bentL s Z).getLast ne) := by
    rcases List.mem_append.mp m with q | q
    · exact (List.pairwise_append.mp up).2.2 _ q _ List.mem_cons_self
    · rw [List.mem_singleton] at q
      rw [← q]
      omega
  have := alS_inj hs gx (goes_end hs).2 (by have := (alS_min hs gx).2; omega)
  exact ⟨(bentL s Z).dropLast, by rw [← this]; exact e⟩
/-! ### places near a stroke -/
/-- a place of the stroke no more than R halves away from (X/K, Y/K), in x and in y -/
def NearS (a b c d R K X Y : Int) : Prop := ∃ p q : Int, 0 < q ∧ 0 ≤ p ∧ p ≤ q ∧ ((2 * X - R * K) * q ≤ 2 * K * (a * q + (c - a) * p) ∧ 2 * K * (a * q + (c - a) * p) ≤ (2 * X + R * K) * q) ∧
  (2 * Y - R * K) * q ≤ 2 * K * (b * q + (d - b) * p) ∧ 2 * K * (b * q + (d - b) * p) ≤ (2 * Y + R * K) * q
/-! ### the law's own: whether the stroke comes so near -/
/-! ### rows laid again: what they are -/
/-- w is ahead of u, in the directions x and y -/
def Fwd (x y : Int) (u w : Sp2) : Prop := u ≠ w ∧ 0 ≤ x * (w.1 - u.1) ∧ 0 ≤ y * (w.2 - u.2) ∧ (x = 0 → w.1 = u.1) ∧ (y = 0 → w.2 = u.2)
theorem fwd_0 {x a b : Int} (h : 0 ≤ x * (b - a)) (g : 0 ≤ x * (a - b)) (z : x = 0 → b = a) : b = a := by
  by_cases e : x = 0
  · exact z e
  · have e1 : x * (a - b) = -(x * (b - a)) := by grind
    have : x * (b - a) = 0 := by omega
    rcases Int.mul_eq_zero.mp this with k | k
    · exact absurd k e
    · omega
theorem Fwd.trans {x y : Int} {u v w : Sp2} (h : Fwd x y u v) (g : Fwd x y v w) : Fwd x y u w := by
  obtain ⟨h0, h1, h2, h3, h4⟩ := h
  obtain ⟨g0, g1, g2, g3, g4⟩ := g
  refine ⟨fun e => ?_, ?_, ?_, fun z => (g3 z).trans (h3 z), fun z => (g4 z).trans (h4 z)⟩
  · subst e
    exact h0 (Prod.ext (fwd_0 h1 g1 h3).symm (fwd_0 h2 g2 h4).symm)
  · rw [show x * (w.1 - u.1) = x * (w.1 - v.1) + x * (v.1 - u.1) by grind]
    omega
  · rw [show y * (w.2 - u.2) = y * (w.2 - v.2) + y * (v.2 - u.2) by grind]
    omega
theorem sgn_zero {i : Int} (h : sgn i = 0) : i = 0 := by
  rcases Int.lt_trichotomy i 0 with g | g | g
  · rw [sgn_n g] at h; omega
  · exact g
  · rw [sgn_p g] at h; omega
theorem bent_nd {s : D} {Y : List Sp2} (nd : Y.Nodup) : (bentL s Y).Nodup := (byI_perm _).nodup_iff.mpr (nd.filter _)
theorem bent_fwd {a b c d : Int} {Y : List Sp2} (nd : Y.Nodup) : (bentL (.tup [.int a, .int b, .int c, .int d]) Y).Pairwise (Fwd (sgn (c - a)) (sgn (d - b))) := by
  have p := List.Pairwise.and (bent_up (s := .tup [.int a, .int b, .int c, .int d]) (Z := Y)) (bent_nd (s := .tup [.int a, .int b, .int c, .int d]) nd)
  refine List.Pairwise.imp_of_mem (fun {u w} hu hw h => ?_) p
  have gu := goB_iff.mp (mem_bent.mp hu).2
  have gw := goB_iff.mp (mem_bent.mp hw).2
  obtain ⟨l1, l2⟩ := al_le gu gw h.1
  obtain ⟨⟨_, _, u1⟩, _, _, u2⟩ := goes_lo gu
  obtain ⟨⟨_, _, w1⟩, _, _, w2⟩ := goes_lo gw
  exact ⟨h.2, l1, l2, fun z => by have := sgn_zero z; rw [u1 (by omega), w1 (by omega)], fun z => by have := sgn_zero z; rw [u2 (by omega), w2 (by omega)]⟩
/-- a row of a stroke, its spots among Z -/
structure RowIs (s : D) (Z : List Sp2) (L : List Sp2) : Prop where
  up : match s with
    | .tup [.int a, .int b, .int c, .int d] => L.Pairwise (Fwd (sgn (c - a)) (sgn (d - b)))
    | _ => False
  sub : ∀ z ∈ L, z ∈ Z
  one : ∃ r, L = oneSp s :: r
  two : ∃ r, L = r ++ [twoSp s]
theorem RowIs.nd {s : D} {Z L : List Sp2} (h : RowIs s Z L) (hs : StrokeOk s) : L.Nodup := by
  obtain ⟨a, b, c, d, rfl, _⟩ := hs
  have u : L.Pairwise (Fwd (sgn (c - a)) (sgn (d - b))) := h.up
  exact u.imp fun k => k.1
theorem RowIs.len {s : D} {Z L : List Sp2} (h : RowIs s Z L) (hs : StrokeOk s) : 2 ≤ L.length ∧ L.length ≤ Z.length := by
  refine ⟨?_, nd_len (h.nd hs) h.sub⟩
  obtain ⟨r1, e1⟩ := h.one
  obtain ⟨r2, e2⟩ := h.two
  obtain ⟨a, b, c, d, rfl, a0, a1, b0, b1, c0, c1, d0, d1, n1⟩ := hs
  cases r1 with
  | nil =>
    rw [e1] at e2
    cases r2 with
    | nil =>
      simp only [List.nil_append, List.cons.injEq, and_true] at e2
      exact absurd ⟨(congrArg Prod.fst e2).symm, (congrArg Prod.snd e2).symm⟩ n1
    | cons x r2 => simp at e2
  | cons x r1 =>
    rw [e1]
    simp
theorem RowIs.first {s : D} {Z : List Sp2} (hs : StrokeOk s) (nd : Z.Nodup) (h1 : oneSp s ∈ Z) (h2 : twoSp s ∈ Z) : RowIs s Z (bentL s Z) := by
  refine ⟨?_, fun z hz => (mem_bent.mp hz).1, bent_head hs h1, bent_last hs h2⟩
  obtain ⟨a, b, c, d, rfl, _⟩ := hs
  exact bent_fwd nd
/-! ### how far from the stroke -/
theorem NearS.more {a b c d R m n : Int} (h : NearS a b c d R 1 m n) : NearS a b c d (R + 1) 1 m n := by
  obtain ⟨P, Q, Q0, P0, P1, ⟨c1, c2⟩, c3, c4⟩ := h
  have e1 : ∀ x : Int, (2 * x - (R + 1) * 1) * Q = (2 * x - R * 1) * Q - Q := fun x => by grind
  have e2 : ∀ x : Int, (2 * x + (R + 1) * 1) * Q = (2 * x + R * 1) * Q + Q := fun x => by grind
  refine ⟨P, Q, Q0, P0, P1, ⟨?_, ?_⟩, ?_, ?_⟩
  · rw [e1]; omega
  · rw [e2]; omega
  · rw [e1]; omega
  · rw [e2]; omega
/-! ### readings: laid again, laid until they rest -/
def pairD (p : Sp2 × Sp2) : D := .tup [tp p.1, tp p.2]
/-! ### the spots of a laying, each once; a bent row is told by which spots there are -/
def dd : List Sp2 → List Sp2
  | [] => []
  | x :: r => if x ∈ dd r then dd r else x :: dd r
/-! ### until they rest -/
/-! ### the law's own likeness, dicts too -/
theorem lk_tp {n : Nat} {s : Sp2} : Lk (n + 2) (tp s) := lk_two lk_int lk_int
/-! ### the law's own bending of a step that is at rest -/
/-! ### a laying at rest -/
/-! ### sets of spots, of any number -/
theorem setToN_spots {L : List Sp2} {acc : List D} (ha : ∀ k, k ∈ acc ↔ ∃ s ∈ L, k = tp s) {ys : List D} (h : SetToN acc ys) : ∃ Z : List Sp2, Z.Nodup ∧ (∀ s, s ∈ Z ↔ s ∈ L) ∧ SortTo (Z.map tp) ys := by
  obtain ⟨ks, nd, mem, st⟩ := h
  have up : ∀ ks : List D, (∀ k ∈ ks, ∃ s ∈ L, k = tp s) → ∃ Z : List Sp2, ks = Z.map tp := by
    intro ks
    induction ks with
    | nil => intro _; exact ⟨[], rfl⟩
    | cons k ks ih =>
      intro h
      obtain ⟨s, _, e⟩ := h k List.mem_cons_self
      obtain ⟨Z, eZ⟩ := ih fun k hk => h k (List.mem_cons_of_mem _ hk)
      exact ⟨s :: Z, by rw [e, eZ]; rfl⟩
  obtain ⟨Z, eZ⟩ := up ks fun k hk => (ha k).mp ((mem k).mp hk)
  subst eZ
  refine ⟨Z, ?_, fun s => ?_, st⟩
  · unfold List.Nodup at nd ⊢
    rw [List.pairwise_map] at nd
    exact nd.imp fun h e => h (by rw [e])
  · constructor
    · intro hs
      obtain ⟨z, hz, e⟩ := (ha _).mp ((mem (tp s)).mp (List.mem_map.mpr ⟨s, hs, rfl⟩))
      rw [tp_inj e]
      exact hz
    · intro hs
      obtain ⟨z, hz, e⟩ := List.mem_map.mp ((mem (tp s)).mpr ((ha _).mpr ⟨s, hs, rfl⟩))
      rw [← tp_inj e]
      exact hz
theorem scN_rows {ρ : List Slot} {s0 : Slot} {K : List D → Prop} (hρ : ρ = [s0, .un, .un]) : ∀ (R : List Row) (acc : List D), acc.length + R.length ≤ 4000 → K ((R.map fun r => tp r.1).reverse ++ acc) →
    scN (gT 2 (gsCons (gN 1) (gsCons (gN 2) gsNil))) dYes (dVar 1) ρ (R.map rowD) acc K
  | [], acc, _, q => by simpa [scN] using q
  | r :: R, acc, hl, q => by
    rw [List.length_cons] at hl
    rw [List.map_cons]
    subst hρ
    show gT 2 (gsCons (gN 1) (gsCons (gN 2) gsNil)) (.tup [tp r.1, csD r.2]) _ _
    walk_at "dv"
    refine ⟨kok_tp _, by omega, scN_rows rfl R _ (by rw [List.length_cons]; omega) ?_⟩
    rw [List.map_cons, List.reverse_cons, List.append_assoc] at q
    exact q
/-! ### the three ways -/
theorem bent_strict {s : D} {Z : List Sp2} (hs : StrokeOk s) (nd : Z.Nodup) : (bentL s Z).Pairwise fun z w => alS s z < alS s w := by
  have n2 : (bentL s Z).Nodup := (byI_perm _).nodup_iff.mpr (nd.filter _)
  refine (List.Pairwise.and bent_up n2).imp_of_mem fun {z w} hz hw h => ?_
  have g1 := (mem_bent.mp hz).2
  have g2 := (mem_bent.mp hw).2
  have ne : alS s z ≠ alS s w := fun e => h.2 (alS_inj hs g1 g2 e)
  have := h.1
  omega
/-! ### pieces -/
def mnS (p : Sp2 × Sp2) : Sp2 := (mnx p.1.1 p.1.2 p.2.1 p.2.2, mny p.1.1 p.1.2 p.2.1 p.2.2)
def mxS (p : Sp2 × Sp2) : Sp2 := (mxx p.1.1 p.1.2 p.2.1 p.2.2, mxy p.1.1 p.1.2 p.2.1 p.2.2)
/-- a step's piece -/
def pcS (p : Sp2 × Sp2) : Sp2 × Sp2 := (mnS p, mxS p)
/-- the steps of a row -/
def stepsR (L : List Sp2) : List (Sp2 × Sp2) := L.zip L.tail
theorem pairD_inj {p q : Sp2 × Sp2} (h : pairD p = pairD q) : p = q := by
  unfold pairD at h
  simp only [D.tup.injEq, List.cons.injEq, and_true] at h
  exact Prod.ext (tp_inj h.1) (tp_inj h.2)
theorem pairD_nt {p q : Sp2 × Sp2} (h : (pairD p).nt = (pairD q).nt) : p = q := by
  unfold pairD at h
  simp only [D.nt, D.nts, NestedKey.tup.injEq, List.cons.injEq, and_true] at h
  exact Prod.ext (tp_nt h.1) (tp_nt h.2)
theorem srt_pairs {L : List (Sp2 × Sp2)} : SrtD (L.map pairD) := by
  refine ⟨⟨⟨4, fun k hk => ?_⟩, fun k hk j hj => ?_, fun k hk => ?_⟩, fun d hd => ?_⟩
  · obtain ⟨d, hd, rfl⟩ := List.mem_map.mp hk
    obtain ⟨x, _, rfl⟩ := List.mem_map.mp hd
    simp [pairD, tp, D.nt, D.nts, kindN]
  · obtain ⟨d, hd, rfl⟩ := List.mem_map.mp hk
    obtain ⟨x, _, rfl⟩ := List.mem_map.mp hd
    obtain ⟨e, he, rfl⟩ := List.mem_map.mp hj
    obtain ⟨y, _, rfl⟩ := List.mem_map.mp he
    have l1 := lok_pair (a := x.1.1) (b := x.1.2) (c := y.1.1) (d := y.1.2)
    have l2 := lok_pair (a := x.2.1) (b := x.2.2) (c := y.2.1) (d := y.2.2)
    show LOks [(tp x.1).nt, (tp x.2).nt] [(tp y.1).nt, (tp y.2).nt]
    simp only [LOks]
    exact ⟨fun _ => ⟨fun _ => True.intro, fun _ => l2⟩, fun _ => l1⟩
  · obtain ⟨d, hd, rfl⟩ := List.mem_map.mp hk
    obtain ⟨x, _, rfl⟩ := List.mem_map.mp hd
    simp [pairD, tp, D.nt, D.nts, NestedKey.depth, NestedKey.depthAll]
  · obtain ⟨x, _, rfl⟩ := List.mem_map.mp hd
    simp [pairD, tp, D.srt, D.srts]
/-- the pieces of a laying, rising -/
structure PcOk (LL : List (List Sp2)) (Y : List (Sp2 × Sp2)) : Prop where
  nd : Y.Nodup
  mem : ∀ p, p ∈ Y ↔ ∃ L ∈ LL, ∃ t ∈ stepsR L, p = pcS t
  up : (Y.map pairD).Pairwise fun a b => ltN b.nt a.nt = false
theorem PcOk.uniq {LL MM : List (List Sp2)} {Y Z : List (Sp2 × Sp2)} (h : PcOk LL Y) (g : PcOk MM Z) (e : ∀ p : Sp2 × Sp2, (∃ L ∈ LL, ∃ t ∈ stepsR L, p = pcS t) ↔ ∃ L ∈ MM, ∃ t ∈ stepsR L, p = pcS t) : Y = Z := by
  have p : Y.Perm Z := (List.perm_ext_iff_of_nodup h.nd g.nd).mpr fun s => (h.mem s).trans ((e s).trans (g.mem s).symm)
  have := sortTo_uniq (xs := Y.map pairD) (xs' := Z.map pairD) srt_pairs (fun a ha b hb e => by
    obtain ⟨x, _, rfl⟩ := List.mem_map.mp ha
    obtain ⟨y, _, rfl⟩ := List.mem_map.mp hb
    rw [pairD_nt e]) (p.map pairD) ⟨.refl _, h.up⟩ ⟨.refl _, g.up⟩
  exact (List.map_inj_right fun a b z => pairD_inj z).mp this
/-! ### heaps moved, exchanged, turned about: hot squares and bent rows -/
/-! ### pieces of rows -/
theorem pcS_swap (t : Sp2 × Sp2) : pcS (t.2, t.1) = pcS t := by
  unfold pcS mnS mxS
  dsimp only
  rw [mnx_c, mny_c, mxx_c, mxy_c]
/-- the pieces of a heap's rows, told by the strokes alone -/
structure PcH (L : List D) (Z : List Sp2) (Y : List (Sp2 × Sp2)) : Prop where
  nd : Y.Nodup
  mem : ∀ p, p ∈ Y ↔ ∃ s ∈ L, ∃ t ∈ stepsR (bentL s Z), p = pcS t
  up : (Y.map pairD).Pairwise fun a b => ltN b.nt a.nt = false
theorem pairs_uniq {Y W : List (Sp2 × Sp2)} (n1 : Y.Nodup) (n2 : W.Nodup) (u1 : (Y.map pairD).Pairwise fun a b => ltN b.nt a.nt = false) (u2 : (W.map pairD).Pairwise fun a b => ltN b.nt a.nt = false) (e : ∀ p, p ∈ Y ↔ p ∈ W) : Y = W := by
  have p : Y.Perm W := (List.perm_ext_iff_of_nodup n1 n2).mpr e
  have := sortTo_uniq (xs := Y.map pairD) (xs' := W.map pairD) srt_pairs (fun a ha b hb e => by
    obtain ⟨x, _, rfl⟩ := List.mem_map.mp ha
    obtain ⟨y, _, rfl⟩ := List.mem_map.mp hb
    rw [pairD_nt e]) (p.map pairD) ⟨.refl _, u1⟩ ⟨.refl _, u2⟩
  exact (List.map_inj_right fun a b z => pairD_inj z).mp this
theorem PcH.uniq {L L' : List D} {Z : List Sp2} {Y W : List (Sp2 × Sp2)} (h : PcH L Z Y) (g : PcH L' Z W) (e : ∀ s, s ∈ L ↔ s ∈ L') : Y = W :=
  pairs_uniq h.nd g.nd h.up g.up fun p => by
    rw [h.mem, g.mem]
    exact exists_congr fun s => and_congr_left fun _ => e s
end DV

namespace Pl
abbrev P2 := Int × Int
def InR (m : Int) (x : Rat) : Prop := (m : Rat) - 1/2 ≤ x ∧ x < (m : Rat) + 1/2
theorem near_ex (x : Rat) : ∃ m : Int, InR m x := by
  refine ⟨(x + 1/2).floor, ?_, ?_⟩
  · have := Rat.floor_le (x + 1/2)
    grind
  · have := Rat.lt_floor_add_one (x + 1/2)
    grind
theorem c1 {i j : Int} (h : i < j) : (i : Rat) + 1 ≤ (j : Rat) := by
  have h2 : ((i + 1 : Int) : Rat) ≤ (j : Rat) := Rat.intCast_le_intCast.mpr h
  rw [Rat.intCast_add] at h2
  exact h2
theorem InR.lt {i j : Int} {x y : Rat} (h : InR i x) (g : InR j y) (e : i < j) : x < y := by
  have := c1 e
  unfold InR at *
  grind
theorem InR.uniq {i j : Int} {x : Rat} (h : InR i x) (g : InR j x) : i = j := by
  rcases Int.lt_trichotomy i j with e | e | e
  · have := h.lt g e
    grind
  · exact e
  · have := g.lt h e
    grind
theorem InR.lo {i j : Int} {x : Rat} (h : InR i x) (g : (j : Rat) - 1/2 ≤ x) : j ≤ i := by
  apply Int.not_lt.mp
  intro e
  have := c1 e
  unfold InR at *
  grind
theorem InR.hi {i j : Int} {x : Rat} (h : InR i x) (g : x < (j : Rat) + 1/2) : i ≤ j := by
  apply Int.not_lt.mp
  intro e
  have := c1 e
  unfold InR at *
  grind
theorem mulm {a x y : Rat} (h : 0 ≤ a) (e : x ≤ y) : a * x ≤ a * y := Rat.mul_le_mul_of_nonneg_left e h
theorem mulp {a x y : Rat} (h : 0 < a) (e : x < y) : a * x < a * y := Rat.mul_lt_mul_of_pos_left e h
theorem muln {a x y : Rat} (h : a ≤ 0) (e : x ≤ y) : a * y ≤ a * x := by
  have := mulm (a := -a) (by grind) e
  grind
theorem mulnp {a x y : Rat} (h : a < 0) (e : x < y) : a * y < a * x := by
  have := mulp (a := -a) (by grind) e
  grind
theorem ivt {k m u v y : Rat} (huv : u ≤ v) (h1 : k * u + m ≤ y) (h2 : y ≤ k * v + m) : ∃ x, u ≤ x ∧ x ≤ v ∧ k * x + m = y := by
  by_cases hk : 0 < k
  · refine ⟨(y - m) / k, ?_, ?_, ?_⟩
    · have e : k * ((y - m) / k) = y - m := by grind
      apply Rat.not_lt.mp
      intro l
      have := mulp hk l
      grind
    · have e : k * ((y - m) / k) = y - m := by grind
      apply Rat.not_lt.mp
      intro l
      have := mulp hk l
      grind
    · grind
  · have := muln (a := k) (by grind) huv
    exact ⟨u, by grind, huv, by grind⟩
theorem ivt' {k m u v y : Rat} (huv : u ≤ v) (h1 : y ≤ k * u + m) (h2 : k * v + m ≤ y) : ∃ x, u ≤ x ∧ x ≤ v ∧ k * x + m = y := by
  obtain ⟨x, a, b, c⟩ := ivt (k := -k) (m := -m) (y := -y) huv (by grind) (by grind)
  exact ⟨x, a, b, by grind⟩
/-- the graph of a stroke that isn't upright -/
structure Gr where
  k : Rat
  m : Rat
  lo : Rat
  hi : Rat
def Gr.at (f : Gr) (x : Rat) : Rat := f.k * x + f.m
def Gr.Go (f : Gr) (z : P2) : Prop := ∃ x, f.lo ≤ x ∧ x ≤ f.hi ∧ InR z.1 x ∧ InR z.2 (f.at x)
theorem strip {f : Gr} {z : P2} (he : ∀ x, InR z.1 x → f.lo ≤ x ∧ x ≤ f.hi) (ng : ¬f.Go z) : (∀ x, InR z.1 x → f.at x < (z.2 : Rat) - 1/2) ∨ ∀ x, InR z.1 x → (z.2 : Rat) + 1/2 ≤ f.at x := by
  have no : ∀ x, InR z.1 x → f.at x < (z.2 : Rat) - 1/2 ∨ (z.2 : Rat) + 1/2 ≤ f.at x := fun x hx => by
    by_cases h : f.at x < (z.2 : Rat) - 1/2
    · exact .inl h
    · right
      apply Rat.not_lt.mp
      intro h2
      exact ng ⟨x, (he x hx).1, (he x hx).2, hx, by grind, h2⟩
  by_cases c : ∃ x, InR z.1 x ∧ f.at x < (z.2 : Rat) - 1/2
  · left
    obtain ⟨x0, i0, l0⟩ := c
    intro x hx
    rcases no x hx with h | h
    · exact h
    · exfalso
      have key : ∃ x', InR z.1 x' ∧ f.at x' = (z.2 : Rat) - 1/2 := by
        unfold Gr.at at *
        rcases Rat.le_total (a := x0) (b := x) with e | e
        · obtain ⟨x', e1, e2, e3⟩ := ivt (k := f.k) (m := f.m) (y := (z.2 : Rat) - 1/2) e (by grind) (by grind)
          exact ⟨x', by unfold InR at *; grind, e3⟩
        · obtain ⟨x', e1, e2, e3⟩ := ivt' (k := f.k) (m := f.m) (y := (z.2 : Rat) - 1/2) e (by grind) (by grind)
          exact ⟨x', by unfold InR at *; grind, e3⟩
      obtain ⟨x', i', e'⟩ := key
      rcases no x' i' with h | h <;> grind
  · right
    intro x hx
    rcases no x hx with h | h
    · exact absurd ⟨x, hx, h⟩ c
    · exact h
theorem strip_in {f : Gr} {a b : P2} {i : Int} (ga : f.Go a) (gb : f.Go b) (h1 : a.1 < i) (h2 : i < b.1) : ∀ x, InR i x → f.lo ≤ x ∧ x ≤ f.hi := fun x hx => by
  obtain ⟨xa, a1, a2, a3, a4⟩ := ga
  obtain ⟨xb, b1, b2, b3, b4⟩ := gb
  have := a3.lt hx h1
  have := hx.lt b3 h2
  grind
/-- a place of the stroke a half at most from the step's -/
theorem amid {f : Gr} {a b : P2} {i : Int} {kp : Rat} (ga : f.Go a) (gb : f.Go b) (h1 : a.1 < i) (h2 : i < b.1) (hp : kp * ((b.1 : Rat) - a.1) = (b.2 : Rat) - a.2) : ∃ x, InR i x ∧ f.at x < (a.2 : Rat) + kp * ((i : Rat) - a.1) + 1/2 ∧ (a.2 : Rat) + kp * ((i : Rat) - a.1) - 1/2 ≤ f.at x := by
  obtain ⟨xa, a1, a2, a3, a4⟩ := ga
  obtain ⟨xb, b1, b2, b3, b4⟩ := gb
  have e1 := c1 h1
  have e2 := c1 h2
  have hd : (0 : Rat) < (b.1 : Rat) - a.1 := by grind
  have ⟨t, ht, t0, t1⟩ : ∃ t : Rat, t * ((b.1 : Rat) - a.1) = (i : Rat) - a.1 ∧ 0 ≤ t ∧ 0 ≤ 1 - t := by
    have e : (((i : Rat) - a.1) / ((b.1 : Rat) - a.1)) * ((b.1 : Rat) - a.1) = (i : Rat) - a.1 := by grind
    refine ⟨_, e, ?_, ?_⟩
    · apply Rat.not_lt.mp
      intro l
      have := mulp hd l
      grind
    · apply Rat.not_lt.mp
      intro l
      have := mulp hd l
      grind
  have q1 := mulm t1 (Rat.le_of_lt a3.2)
  have q2 := mulm t0 (Rat.le_of_lt b3.2)
  have q3 := mulm t1 a3.1
  have q4 := mulm t0 b3.1
  have q7 := mulm t1 a4.1
  have q8 := mulm t0 b4.1
  have ev : f.at ((1 - t) * xa + t * xb) = (1 - t) * f.at xa + t * f.at xb := by unfold Gr.at; grind
  have ex : (1 - t) * (a.1 : Rat) + t * b.1 = i := by grind
  have ey : (1 - t) * (a.2 : Rat) + t * b.2 = (a.2 : Rat) + kp * ((i : Rat) - a.1) := by grind
  have strict : ∀ u v u' v' : Rat, u < u' → v < v' → (1 - t) * u + t * v < (1 - t) * u' + t * v' := fun u v u' v' hu hv => by
    by_cases c : 0 < t
    · have := mulp c hv
      have := mulm t1 (Rat.le_of_lt hu)
      grind
    · have z : t = 0 := by grind
      rw [z]
      grind
  have s1 := strict _ _ _ _ a3.2 b3.2
  have s2 := strict _ _ _ _ a4.2 b4.2
  refine ⟨(1 - t) * xa + t * xb, ⟨?_, ?_⟩, ?_, ?_⟩
  · grind
  · grind
  · rw [ev]
    grind
  · rw [ev]
    grind
theorem side_up {f : Gr} {a b z : P2} {kp : Rat} (ga : f.Go a) (gb : f.Go b) (h1 : a.1 < z.1) (h2 : z.1 < b.1) (hp : kp * ((b.1 : Rat) - a.1) = (b.2 : Rat) - a.2) (ng : ¬f.Go z) (h : (a.2 : Rat) + kp * ((z.1 : Rat) - a.1) ≤ z.2) : ∀ x, InR z.1 x → f.at x < (z.2 : Rat) - 1/2 := by
  rcases strip (strip_in ga gb h1 h2) ng with s | s
  · exact s
  · obtain ⟨x, hx, l1, l2⟩ := amid ga gb h1 h2 hp
    have := s x hx
    grind
theorem side_dn {f : Gr} {a b z : P2} {kp : Rat} (ga : f.Go a) (gb : f.Go b) (h1 : a.1 < z.1) (h2 : z.1 < b.1) (hp : kp * ((b.1 : Rat) - a.1) = (b.2 : Rat) - a.2) (ng : ¬f.Go z) (h : (z.2 : Rat) ≤ (a.2 : Rat) + kp * ((z.1 : Rat) - a.1)) : ∀ x, InR z.1 x → (z.2 : Rat) + 1/2 ≤ f.at x := by
  rcases strip (strip_in ga gb h1 h2) ng with s | s
  · obtain ⟨x, hx, l1, l2⟩ := amid ga gb h1 h2 hp
    have := s x hx
    grind
  · exact s
/-- where two graphs change their order -/
theorem cross_at {f g : Gr} {u v : Rat} (huv : u ≤ v) (h1 : f.at u ≤ g.at u) (h2 : g.at v ≤ f.at v) : ∃ x, u ≤ x ∧ x ≤ v ∧ f.at x = g.at x := by
  unfold Gr.at at *
  obtain ⟨x, e1, e2, e3⟩ := ivt (k := f.k - g.k) (m := f.m - g.m) (y := 0) huv (by grind) (by grind)
  exact ⟨x, e1, e2, by grind⟩
theorem Gr.up {f : Gr} {u v : Rat} (h : f.at u < f.at v) (e : u ≤ v) : 0 < f.k := by
  apply Rat.not_le.mp
  intro l
  have := muln l e
  unfold Gr.at at h
  grind
theorem Gr.dn {f : Gr} {u v : Rat} (h : f.at v < f.at u) (e : u ≤ v) : f.k < 0 := by
  apply Rat.not_le.mp
  intro l
  have := mulm l e
  unfold Gr.at at h
  grind
theorem Gr.mono {f : Gr} {u v : Rat} (h : 0 ≤ f.k) (e : u ≤ v) : f.at u ≤ f.at v := by
  have := mulm h e
  unfold Gr.at
  grind
theorem Gr.anti {f : Gr} {u v : Rat} (h : f.k ≤ 0) (e : u ≤ v) : f.at v ≤ f.at u := by
  have := muln h e
  unfold Gr.at
  grind
structure Stp (Z : P2 → Prop) (f : Gr) (a b : P2) : Prop where
  za : Z a
  zb : Z b
  ga : f.Go a
  gb : f.Go b
  lt : a.1 < b.1
  mid : ∀ z, Z z → f.Go z → a.1 < z.1 → z.1 < b.1 → False
  la : ∀ z, Z z → f.Go z → z.1 = a.1 → (0 < f.k → z.2 ≤ a.2) ∧ (f.k < 0 → a.2 ≤ z.2)
  lb : ∀ z, Z z → f.Go z → z.1 = b.1 → (0 < f.k → b.2 ≤ z.2) ∧ (f.k < 0 → z.2 ≤ b.2)
/-- where two strokes meet, one of them steeper, the square is hot -/
def Meets (Z : P2 → Prop) (f g : Gr) : Prop := ∀ x, f.lo ≤ x → x ≤ f.hi → g.lo ≤ x → x ≤ g.hi → f.at x = g.at x → f.k ≠ g.k → ∀ z : P2, InR z.1 x → InR z.2 (f.at x) → Z z
theorem Meets.hot {Z : P2 → Prop} {f g : Gr} (M : Meets Z f g) {x : Rat} (h1 : f.lo ≤ x) (h2 : x ≤ f.hi) (h3 : g.lo ≤ x) (h4 : x ≤ g.hi) (e : f.at x = g.at x) (n : f.k ≠ g.k) {i : Int} (hi : InR i x) : ∃ j : Int, InR j (f.at x) ∧ Z (i, j) ∧ f.Go (i, j) ∧ g.Go (i, j) := by
  obtain ⟨j, hj⟩ := near_ex (f.at x)
  exact ⟨j, hj, M x h1 h2 h3 h4 e n (i, j) hi hj, ⟨x, h1, h2, hi, hj⟩, ⟨x, h3, h4, hi, by rw [← e]; exact hj⟩⟩
section
variable {Z : P2 → Prop} {f g : Gr} {a b c d : P2} {kp kq : Rat}
theorem claimL1 (F : Stp Z f a b) (G : Stp Z g c d) (M : Meets Z f g) (hp : kp * ((b.1 : Rat) - a.1) = (b.2 : Rat) - a.2) (h1 : a.1 < c.1) (h2 : c.1 < b.1) (ab : (a.2 : Rat) + kp * ((c.1 : Rat) - a.1) ≤ c.2) : f.at ((c.1 : Rat) + 1/2) ≤ g.at ((c.1 : Rat) + 1/2) := by
  apply Rat.not_lt.mp
  intro hn
  have ng : ¬f.Go c := fun h => F.mid c G.za h h1 h2
  have sd := side_up F.ga F.gb h1 h2 hp ng ab
  have ext := strip_in F.ga F.gb h1 h2
  obtain ⟨xc, c1', c2', c3', c4'⟩ := G.ga
  obtain ⟨xd, d1', d2', d3', d4'⟩ := G.gb
  have e0 := sd xc c3'
  obtain ⟨x1, k1, k2, k3⟩ := cross_at (f := f) (g := g) (u := xc) (v := (c.1 : Rat) + 1/2) (Rat.le_of_lt c3'.2) (by have := c4'.1; grind) (Rat.le_of_lt hn)
  have ne : x1 ≠ (c.1 : Rat) + 1/2 := fun e => by rw [e] at k3; grind
  have i1 : InR c.1 x1 := ⟨by have := c3'.1; grind, by grind⟩
  have ex := ext x1 i1
  have e1 := sd x1 i1
  have hg : g.k < 0 := Gr.dn (u := xc) (v := x1) (by have := c4'.1; grind) k1
  have nk : f.k ≠ g.k := fun e => by
    have : f.at xc - g.at xc = f.at x1 - g.at x1 := by unfold Gr.at; rw [e]; grind
    have := c4'.1
    grind
  have xdl := i1.lt d3' G.lt
  obtain ⟨j, hj, zz, _, gg⟩ := M.hot ex.1 ex.2 (by grind) (by grind) k3 nk i1
  have := (G.la _ zz gg rfl).2 hg
  have := hj.lo (j := c.2)
  have l2 : j < c.2 := by
    apply Int.not_le.mp
    intro l
    have := hj.1
    rcases Int.lt_or_eq_of_le l with l | l
    · have := c1 l
      grind
    · rw [← l] at this
      grind
  have := (G.la _ zz gg rfl).2 hg
  dsimp only at this
  omega
theorem claimL2 (F : Stp Z f a b) (G : Stp Z g c d) (M : Meets Z f g) (hq : kq * ((d.1 : Rat) - c.1) = (d.2 : Rat) - c.2) (h1 : c.1 < a.1) (h2 : a.1 < d.1) (ab : (a.2 : Rat) ≤ (c.2 : Rat) + kq * ((a.1 : Rat) - c.1)) : f.at ((a.1 : Rat) + 1/2) ≤ g.at ((a.1 : Rat) + 1/2) := by
  apply Rat.not_lt.mp
  intro hn
  have ng : ¬g.Go a := fun h => G.mid a F.za h h1 h2
  have sd := side_dn G.ga G.gb h1 h2 hq ng ab
  have ext := strip_in G.ga G.gb h1 h2
  obtain ⟨xa, a1', a2', a3', a4'⟩ := F.ga
  obtain ⟨xb, b1', b2', b3', b4'⟩ := F.gb
  have e0 := sd xa a3'
  obtain ⟨x1, k1, k2, k3⟩ := cross_at (f := f) (g := g) (u := xa) (v := (a.1 : Rat) + 1/2) (Rat.le_of_lt a3'.2) (by have := a4'.2; grind) (Rat.le_of_lt hn)
  have ne : x1 ≠ (a.1 : Rat) + 1/2 := fun e => by rw [e] at k3; grind
  have i1 : InR a.1 x1 := ⟨by have := a3'.1; grind, by grind⟩
  have ex := ext x1 i1
  have e1 := sd x1 i1
  have hf : 0 < f.k := Gr.up (u := xa) (v := x1) (by have := a4'.2; grind) k1
  have nk : f.k ≠ g.k := fun e => by
    have : f.at xa - g.at xa = f.at x1 - g.at x1 := by unfold Gr.at; rw [e]; grind
    have := a4'.2
    grind
  have xbl := i1.lt b3' F.lt
  obtain ⟨j, hj, zz, gg, _⟩ := M.hot (by grind) (by grind) ex.1 ex.2 k3 nk i1
  have l2 : a.2 < j := by
    apply Int.not_le.mp
    intro l
    have := hj.2
    rcases Int.lt_or_eq_of_le l with l | l
    · have := c1 l
      grind
    · rw [l] at this
      grind
  have := (F.la _ zz gg rfl).1 hf
  dsimp only at this
  omega
end
section
variable {Z : P2 → Prop} {f g : Gr} {a b c d : P2} {kp kq : Rat}
theorem below_half {i j : Int} (h : i < j) : (i : Rat) + 1/2 ≤ (j : Rat) - 1/2 := by
  have := c1 h
  grind
theorem InR.gt {i j : Int} {x : Rat} (h : InR i x) (g : (j : Rat) + 1/2 ≤ x) : j < i := by
  apply Int.not_le.mp
  intro l
  have := h.2
  rcases Int.lt_or_eq_of_le l with l | l
  · have := c1 l
    grind
  · rw [l] at this
    grind
theorem InR.below {i j : Int} {x : Rat} (h : InR i x) (g : x < (j : Rat) - 1/2) : i < j := by
  apply Int.not_le.mp
  intro l
  have := h.1
  rcases Int.lt_or_eq_of_le l with l | l
  · have := c1 l
    grind
  · rw [← l] at this
    grind
/-- a value in the square between those at both places -/
theorem val_in {j : Int} {y1 y2 : Rat} (h1 : y1 < (j : Rat) + 1/2) (h2 : (j : Rat) + 1/2 ≤ y2) : ∃ y, y1 ≤ y ∧ y ≤ y2 ∧ InR j y := by
  rcases Rat.le_total (a := y1) (b := (j : Rat) - 1/2) with e | e
  · exact ⟨(j : Rat) - 1/2, e, by grind, by unfold InR; grind⟩
  · exact ⟨y1, Rat.le_refl, by grind, e, h1⟩
theorem in_low {j : Int} : InR j ((j : Rat) - 1/2) := by unfold InR; grind
theorem claimL3 (F : Stp Z f a b) (G : Stp Z g c d) (M : Meets Z f g) (h1 : a.1 = c.1) (ac : a.2 < c.2) : f.at ((a.1 : Rat) + 1/2) ≤ g.at ((a.1 : Rat) + 1/2) := by
  apply Rat.not_lt.mp
  intro hn
  have gap := below_half ac
  have Gf := fun h : f.Go c => F.la c G.za h h1.symm
  have Gg := fun h : g.Go a => G.la a F.za h h1
  obtain ⟨xa, a1', a2', a3', a4'⟩ := F.ga
  obtain ⟨xb, b1', b2', b3', b4'⟩ := F.gb
  obtain ⟨xc, c1', c2', c3', c4'⟩ := G.ga
  obtain ⟨xd, d1', d2', d3', d4'⟩ := G.gb
  rw [← h1] at c3'
  have hb := b3'.1
  have hb' := below_half F.lt
  have hd := d3'.1
  have hd' := below_half G.lt
  rw [← h1] at hd'
  have ya := a4'.2
  have yc := c4'.1
  have xa2 := a3'.2
  have xc2 := c3'.2
  have exf : ∀ x, xa ≤ x → x < (a.1 : Rat) + 1/2 → InR a.1 x ∧ f.lo ≤ x ∧ x ≤ f.hi := fun x l u => ⟨⟨by have := a3'.1; grind, u⟩, by grind, by grind⟩
  have exg : ∀ x, xc ≤ x → x < (a.1 : Rat) + 1/2 → InR a.1 x ∧ g.lo ≤ x ∧ x ≤ g.hi := fun x l u => ⟨⟨by have := c3'.1; grind, u⟩, by grind, by grind⟩
  -- f comes through c's square
  have fc : ∀ v, xa ≤ v → v ≤ (a.1 : Rat) + 1/2 → (c.2 : Rat) - 1/2 < f.at v → f.Go c := fun v l u e => by
    obtain ⟨x, e1, e2, e3⟩ := ivt (k := f.k) (m := f.m) (y := (c.2 : Rat) - 1/2) l (by unfold Gr.at at ya; grind) (by unfold Gr.at at e; grind)
    have nx : x ≠ v := fun z => by rw [z] at e3; unfold Gr.at at e; grind
    obtain ⟨i1, i2, i3⟩ := exf x e1 (by grind)
    exact ⟨x, i2, i3, by rw [← h1]; exact i1, by unfold Gr.at; rw [e3]; exact in_low⟩
  -- g comes through a's square
  have ga : ∀ v, xc ≤ v → v ≤ (a.1 : Rat) + 1/2 → g.at v < (a.2 : Rat) + 1/2 → g.Go a := fun v l u e => by
    have yy : ∃ y, g.at v < y ∧ y ≤ g.at xc ∧ InR a.2 y := by
      rcases Rat.le_total (a := (a.2 : Rat) - 1/2) (b := g.at v) with z | z
      · exact ⟨(g.at v + ((a.2 : Rat) + 1/2)) / 2, by grind, by grind, by unfold InR; grind⟩
      · rcases Rat.le_iff_lt_or_eq.mp z with z | z
        · exact ⟨(a.2 : Rat) - 1/2, z, by grind, in_low⟩
        · exact ⟨a.2, by grind, by grind, by unfold InR; grind⟩
    obtain ⟨y, y1, y2, y3⟩ := yy
    obtain ⟨x, e1, e2, e3⟩ := ivt' (k := g.k) (m := g.m) (y := y) l y2 (by unfold Gr.at at y1; grind)
    have nx : x ≠ v := fun z => by rw [z] at e3; unfold Gr.at at y1; grind
    obtain ⟨i1, i2, i3⟩ := exg x e1 (by grind)
    exact ⟨x, i2, i3, i1, by unfold Gr.at; rw [e3]; exact y3⟩
  by_cases kg : 0 ≤ g.k
  · have m1 := Gr.mono kg (u := xc) (v := (a.1 : Rat) + 1/2) (by grind)
    have h2 := fc ((a.1 : Rat) + 1/2) (by grind) Rat.le_refl (by grind)
    have kf : 0 < f.k := Gr.up (u := xa) (v := (a.1 : Rat) + 1/2) (by grind) (by grind)
    have := (Gf h2).1 kf
    omega
  · have kg : g.k < 0 := by grind
    by_cases kf : f.k ≤ 0
    · have m1 := Gr.anti kf (u := xa) (v := (a.1 : Rat) + 1/2) (by grind)
      have h2 := ga ((a.1 : Rat) + 1/2) (by grind) Rat.le_refl (by grind)
      have := (Gg h2).2 kg
      omega
    · have kf : 0 < f.k := by grind
      have both : ∀ x1, xa ≤ x1 → xc ≤ x1 → x1 < (a.1 : Rat) + 1/2 → f.at x1 = g.at x1 → False := fun x1 l1 l2 u e => by
        obtain ⟨i1, i2, i3⟩ := exf x1 l1 u
        obtain ⟨_, j2, j3⟩ := exg x1 l2 u
        obtain ⟨j, hj, zz, gf, gg⟩ := M.hot i2 i3 j2 j3 e (by grind) i1
        have q1 := (F.la _ zz gf rfl).1 kf
        have q2 := (G.la _ zz gg h1).2 kg
        dsimp only at q1 q2
        omega
      rcases Rat.le_total (a := xa) (b := xc) with e | e
      · have m1 := Gr.anti (Rat.le_of_lt kg) e
        obtain ⟨x1, k1, k2, k3⟩ := cross_at (f := f) (g := g) (u := xa) (v := (a.1 : Rat) + 1/2) (by grind) (by grind) (Rat.le_of_lt hn)
        have ne : x1 ≠ (a.1 : Rat) + 1/2 := fun e => by rw [e] at k3; grind
        rcases Rat.le_total (a := xc) (b := x1) with e2 | e2
        · exact both x1 k1 e2 (by grind) k3
        · have m2 := Gr.anti (Rat.le_of_lt kg) e2
          have m3 := Gr.mono (Rat.le_of_lt kf) e2
          rcases Rat.le_iff_lt_or_eq.mp e2 with e3 | e3
          · have m4 := mulp kf e3
            have h2 := fc xc e (by grind) (by unfold Gr.at at *; grind)
            have := (Gf h2).1 kf
            omega
          · exact both x1 k1 (by grind) (by grind) k3
      · have m1 := Gr.mono (Rat.le_of_lt kf) e
        obtain ⟨x1, k1, k2, k3⟩ := cross_at (f := f) (g := g) (u := xc) (v := (a.1 : Rat) + 1/2) (by grind) (by grind) (Rat.le_of_lt hn)
        have ne : x1 ≠ (a.1 : Rat) + 1/2 := fun e => by rw [e] at k3; grind
        rcases Rat.le_total (a := xa) (b := x1) with e2 | e2
        · exact both x1 e2 k1 (by grind) k3
        · have m2 := Gr.anti (Rat.le_of_lt kg) e2
          have m3 := Gr.mono (Rat.le_of_lt kf) e2
          have h2 := ga xa e (by grind) (by grind)
          have := (Gg h2).2 kg
          omega
theorem claimR1 (F : Stp Z f a b) (G : Stp Z g c d) (M : Meets Z f g) (hp : kp * ((b.1 : Rat) - a.1) = (b.2 : Rat) - a.2) (h1 : a.1 < d.1) (h2 : d.1 < b.1) (ab : (d.2 : Rat) ≤ (a.2 : Rat) + kp * ((d.1 : Rat) - a.1)) : g.at ((d.1 : Rat) - 1/2) < f.at ((d.1 : Rat) - 1/2) := by
  apply Rat.not_le.mp
  intro hn
  have ng : ¬f.Go d := fun h => F.mid d G.zb h h1 h2
  have sd := side_dn F.ga F.gb h1 h2 hp ng ab
  have ext := strip_in F.ga F.gb h1 h2
  obtain ⟨xc, c1', c2', c3', c4'⟩ := G.ga
  obtain ⟨xd, d1', d2', d3', d4'⟩ := G.gb
  have e0 := sd xd d3'
  have yd := d4'.2
  have dx1 := d3'.1
  have dx2 := d3'.2
  obtain ⟨x1, k1, k2, k3⟩ := cross_at (f := f) (g := g) (u := (d.1 : Rat) - 1/2) (v := xd) dx1 hn (by grind)
  have i1 : InR d.1 x1 := ⟨k1, by grind⟩
  have ex := ext x1 i1
  have e1 := sd x1 i1
  have hg : g.k < 0 := Gr.dn (u := x1) (v := xd) (by grind) k2
  have nk : f.k ≠ g.k := fun e => by
    have : f.at xd - g.at xd = f.at x1 - g.at x1 := by unfold Gr.at; rw [e]; grind
    grind
  have xcl := c3'.lt i1 G.lt
  obtain ⟨j, hj, zz, _, gg⟩ := M.hot ex.1 ex.2 (by grind) (by grind) k3 nk i1
  have l2 := hj.gt e1
  have := (G.lb _ zz gg rfl).2 hg
  dsimp only at this
  omega
theorem claimR2 (F : Stp Z f a b) (G : Stp Z g c d) (M : Meets Z f g) (hq : kq * ((d.1 : Rat) - c.1) = (d.2 : Rat) - c.2) (h1 : c.1 < b.1) (h2 : b.1 < d.1) (ab : (c.2 : Rat) + kq * ((b.1 : Rat) - c.1) ≤ b.2) : g.at ((b.1 : Rat) - 1/2) < f.at ((b.1 : Rat) - 1/2) := by
  apply Rat.not_le.mp
  intro hn
  have ng : ¬g.Go b := fun h => G.mid b F.zb h h1 h2
  have sd := side_up G.ga G.gb h1 h2 hq ng ab
  have ext := strip_in G.ga G.gb h1 h2
  obtain ⟨xa, a1', a2', a3', a4'⟩ := F.ga
  obtain ⟨xb, b1', b2', b3', b4'⟩ := F.gb
  have e0 := sd xb b3'
  have yb := b4'.1
  have bx1 := b3'.1
  have bx2 := b3'.2
  obtain ⟨x1, k1, k2, k3⟩ := cross_at (f := f) (g := g) (u := (b.1 : Rat) - 1/2) (v := xb) bx1 hn (by grind)
  have i1 : InR b.1 x1 := ⟨k1, by grind⟩
  have ex := ext x1 i1
  have e1 := sd x1 i1
  have hf : 0 < f.k := Gr.up (u := x1) (v := xb) (by grind) k2
  have nk : f.k ≠ g.k := fun e => by
    have : f.at xb - g.at xb = f.at x1 - g.at x1 := by unfold Gr.at; rw [e]; grind
    grind
  have xal := a3'.lt i1 F.lt
  obtain ⟨j, hj, zz, gg, _⟩ := M.hot (by grind) (by grind) ex.1 ex.2 k3 nk i1
  have l2 := hj.below (j := b.2) (by grind)
  have := (F.lb _ zz gg rfl).1 hf
  dsimp only at this
  omega
theorem claimR3 (F : Stp Z f a b) (G : Stp Z g c d) (M : Meets Z f g) (h1 : b.1 = d.1) (db : d.2 < b.2) : g.at ((b.1 : Rat) - 1/2) < f.at ((b.1 : Rat) - 1/2) := by
  apply Rat.not_le.mp
  intro hn
  have gap := below_half db
  have Gf := fun h : f.Go d => F.lb d G.zb h h1.symm
  have Gg := fun h : g.Go b => G.lb b F.zb h h1
  obtain ⟨xa, a1', a2', a3', a4'⟩ := F.ga
  obtain ⟨xb, b1', b2', b3', b4'⟩ := F.gb
  obtain ⟨xc, c1', c2', c3', c4'⟩ := G.ga
  obtain ⟨xd, d1', d2', d3', d4'⟩ := G.gb
  rw [← h1] at d3'
  have ha := a3'.2
  have ha' := below_half F.lt
  have hc := c3'.2
  have hc' := below_half G.lt
  rw [← h1] at hc'
  have yb := b4'.1
  have yd := d4'.2
  have xb1 := b3'.1
  have xb2 := b3'.2
  have xd1 := d3'.1
  have xd2 := d3'.2
  have exf : ∀ x, (b.1 : Rat) - 1/2 ≤ x → x ≤ xb → InR b.1 x ∧ f.lo ≤ x ∧ x ≤ f.hi := fun x l u => ⟨⟨l, by grind⟩, by grind, by grind⟩
  have exg : ∀ x, (b.1 : Rat) - 1/2 ≤ x → x ≤ xd → InR b.1 x ∧ g.lo ≤ x ∧ x ≤ g.hi := fun x l u => ⟨⟨l, by grind⟩, by grind, by grind⟩
  -- f comes through d's square
  have fd : ∀ v, (b.1 : Rat) - 1/2 ≤ v → v ≤ xb → f.at v < (d.2 : Rat) + 1/2 → f.Go d := fun v l u e => by
    obtain ⟨y, y1, y2, y3⟩ := val_in (j := d.2) (y1 := f.at v) (y2 := f.at xb) e (by grind)
    obtain ⟨x, e1, e2, e3⟩ := ivt (k := f.k) (m := f.m) (y := y) u y1 y2
    obtain ⟨i1, i2, i3⟩ := exf x (by grind) e2
    exact ⟨x, i2, i3, by rw [← h1]; exact i1, by unfold Gr.at; rw [e3]; exact y3⟩
  -- g comes through b's square
  have gb : ∀ v, (b.1 : Rat) - 1/2 ≤ v → v ≤ xd → (b.2 : Rat) - 1/2 ≤ g.at v → g.Go b := fun v l u e => by
    obtain ⟨x, e1, e2, e3⟩ := ivt' (k := g.k) (m := g.m) (y := (b.2 : Rat) - 1/2) u e (by unfold Gr.at at yd; grind)
    obtain ⟨i1, i2, i3⟩ := exg x (by grind) e2
    exact ⟨x, i2, i3, i1, by unfold Gr.at; rw [e3]; exact in_low⟩
  by_cases kf : f.k ≤ 0
  · have m1 := Gr.anti kf xb1
    have h2 := gb ((b.1 : Rat) - 1/2) Rat.le_refl xd1 (by grind)
    have kg : g.k < 0 := Gr.dn (u := (b.1 : Rat) - 1/2) (v := xd) (by grind) xd1
    have := (Gg h2).2 kg
    omega
  · have kf : 0 < f.k := by grind
    by_cases kg : 0 ≤ g.k
    · have m1 := Gr.mono kg xd1
      have h2 := fd ((b.1 : Rat) - 1/2) Rat.le_refl xb1 (by grind)
      have := (Gf h2).1 kf
      omega
    · have kg : g.k < 0 := by grind
      have both : ∀ x1, (b.1 : Rat) - 1/2 ≤ x1 → x1 ≤ xb → x1 ≤ xd → f.at x1 = g.at x1 → False := fun x1 l u1 u2 e => by
        obtain ⟨i1, i2, i3⟩ := exf x1 l u1
        obtain ⟨_, j2, j3⟩ := exg x1 l u2
        obtain ⟨j, hj, zz, gf, gg⟩ := M.hot i2 i3 j2 j3 e (by grind) i1
        have q1 := (F.lb _ zz gf rfl).1 kf
        have q2 := (G.lb _ zz gg h1).2 kg
        dsimp only at q1 q2
        omega
      rcases Rat.le_total (a := xb) (b := xd) with e | e
      · have m1 := Gr.mono (Rat.le_of_lt kf) e
        obtain ⟨x1, k1, k2, k3⟩ := cross_at (f := f) (g := g) (u := (b.1 : Rat) - 1/2) (v := xd) xd1 hn (by grind)
        rcases Rat.le_total (a := x1) (b := xb) with e2 | e2
        · exact both x1 k1 e2 k2 k3
        · have m2 := Gr.anti (Rat.le_of_lt kg) e2
          have m3 := Gr.mono (Rat.le_of_lt kf) e2
          have h2 := gb xb xb1 e (by grind)
          have := (Gg h2).2 kg
          omega
      · have m1 := Gr.anti (Rat.le_of_lt kg) e
        obtain ⟨x1, k1, k2, k3⟩ := cross_at (f := f) (g := g) (u := (b.1 : Rat) - 1/2) (v := xb) xb1 hn (by grind)
        rcases Rat.le_total (a := x1) (b := xd) with e2 | e2
        · exact both x1 k1 k2 e2 k3
        · have m2 := Gr.anti (Rat.le_of_lt kg) e2
          have m3 := Gr.mono (Rat.le_of_lt kf) e2
          have h2 := fd xd xd1 e (by grind)
          have := (Gf h2).1 kf
          omega
end
section
variable {Z : P2 → Prop} {f g : Gr} {a b c d : P2} {kp kq : Rat}
theorem Meets.symm (M : Meets Z f g) : Meets Z g f := fun x h1 h2 h3 h4 e n z i1 i2 => M x h3 h4 h1 h2 e.symm (fun q => n q.symm) z i1 (by rw [← e]; exact i2)
theorem ilt {i j : Int} (h : (i : Rat) < (j : Rat)) : i < j := Rat.intCast_lt_intCast.mp h
theorem noX (F : Stp Z f a b) (G : Stp Z g c d) (M : Meets Z f g) (hp : kp * ((b.1 : Rat) - a.1) = (b.2 : Rat) - a.2) (hq : kq * ((d.1 : Rat) - c.1) = (d.2 : Rat) - c.2) {x0 : Rat}
    (xa : (a.1 : Rat) < x0) (xb : x0 < (b.1 : Rat)) (xc : (c.1 : Rat) < x0) (xd : x0 < (d.1 : Rat)) (e : (a.2 : Rat) + kp * (x0 - a.1) = (c.2 : Rat) + kq * (x0 - c.1)) (ne : kq < kp) : False := by
  have hk : 0 < kp - kq := by grind
  have left : ∀ x : Rat, x < x0 → (a.2 : Rat) + kp * (x - a.1) < (c.2 : Rat) + kq * (x - c.1) := fun x hx => by
    have := mulp hk hx
    grind
  have right : ∀ x : Rat, x0 < x → (c.2 : Rat) + kq * (x - c.1) < (a.2 : Rat) + kp * (x - a.1) := fun x hx => by
    have := mulp hk hx
    grind
  have L : ∃ l : Int, a.1 ≤ l ∧ c.1 ≤ l ∧ (l : Rat) < x0 ∧ f.at ((l : Rat) + 1/2) ≤ g.at ((l : Rat) + 1/2) := by
    rcases Int.lt_trichotomy a.1 c.1 with h | h | h
    · exact ⟨c.1, by omega, by omega, xc, claimL1 F G M hp h (ilt (by grind)) (by have := left _ xc; grind)⟩
    · refine ⟨a.1, by omega, by omega, xa, claimL3 F G M h (ilt ?_)⟩
      have := left _ xa
      rw [← h] at this
      grind
    · exact ⟨a.1, by omega, by omega, xa, claimL2 F G M hq h (ilt (by grind)) (by have := left _ xa; grind)⟩
  have R : ∃ r : Int, r ≤ b.1 ∧ r ≤ d.1 ∧ x0 < (r : Rat) ∧ g.at ((r : Rat) - 1/2) < f.at ((r : Rat) - 1/2) := by
    rcases Int.lt_trichotomy b.1 d.1 with h | h | h
    · refine ⟨b.1, by omega, by omega, xb, claimR2 F G M hq (ilt (by grind)) h ?_⟩
      have := right _ xb
      grind
    · refine ⟨b.1, by omega, by omega, xb, claimR3 F G M h (ilt ?_)⟩
      have := right _ xb
      have h' : (b.1 : Rat) = d.1 := by rw [h]
      grind
    · refine ⟨d.1, by omega, by omega, xd, claimR1 F G M hp (ilt (by grind)) h ?_⟩
      have := right _ xd
      grind
  obtain ⟨l, l1, l2, l3, l4⟩ := L
  obtain ⟨r, r1, r2, r3, r4⟩ := R
  have lr : l < r := ilt (by grind)
  have le := below_half lr
  obtain ⟨x1, k1, k2, k3⟩ := cross_at le l4 (Rat.le_of_lt r4)
  have nx : x1 ≠ (r : Rat) - 1/2 := fun z => by rw [z] at k3; grind
  obtain ⟨i, hi⟩ := near_ex x1
  have i1 : l < i := hi.gt k1
  have i2 : i < r := hi.below (by grind)
  have e1 := strip_in F.ga F.gb (show a.1 < i by omega) (show i < b.1 by omega) x1 hi
  have e2 := strip_in G.ga G.gb (show c.1 < i by omega) (show i < d.1 by omega) x1 hi
  have nk : f.k ≠ g.k := fun e => by
    have : f.at ((l : Rat) + 1/2) - g.at ((l : Rat) + 1/2) = f.at ((r : Rat) - 1/2) - g.at ((r : Rat) - 1/2) := by unfold Gr.at; rw [e]; grind
    grind
  obtain ⟨j, _, zz, gf, _⟩ := M.hot e1.1 e1.2 e2.1 e2.2 k3 nk hi
  exact F.mid _ zz gf (by show a.1 < i; omega) (by show i < b.1; omega)
/-- no hot square within a step -/
theorem noIn (F : Stp Z f a b) (hp : kp * ((b.1 : Rat) - a.1) = (b.2 : Rat) - a.2) {z : P2} (hz : Z z) (h1 : a.1 < z.1) (h2 : z.1 < b.1) (e : (a.2 : Rat) + kp * ((z.1 : Rat) - a.1) = z.2) : False := by
  have ng : ¬f.Go z := fun h => F.mid z hz h h1 h2
  have i : InR z.1 z.1 := by unfold InR; grind
  have s1 := side_up F.ga F.gb h1 h2 hp ng (by grind) _ i
  have s2 := side_dn F.ga F.gb h1 h2 hp ng (by grind) _ i
  grind
end
/-! ### strokes -/
abbrev Sk := Int × Int × Int × Int
def Sk.x (s : Sk) (t : Rat) : Rat := (s.1 : Rat) + ((s.2.2.1 : Rat) - s.1) * t
def Sk.y (s : Sk) (t : Rat) : Rat := (s.2.1 : Rat) + ((s.2.2.2 : Rat) - s.2.1) * t
def Sk.Go (s : Sk) (z : P2) : Prop := ∃ t : Rat, 0 ≤ t ∧ t ≤ 1 ∧ InR z.1 (s.x t) ∧ InR z.2 (s.y t)
def Sk.par (s t : Sk) : Prop := (s.2.2.1 - s.1) * (t.2.2.2 - t.2.1) = (s.2.2.2 - s.2.1) * (t.2.2.1 - t.1)
def MeetS (Z : P2 → Prop) (s t : Sk) : Prop := ∀ p q : Rat, 0 ≤ p → p ≤ 1 → 0 ≤ q → q ≤ 1 → s.x p = t.x q → s.y p = t.y q → ¬s.par t → ∀ z : P2, InR z.1 (s.x p) → InR z.2 (s.y p) → Z z
def sg (i : Int) : Int := if 0 < i then 1 else if i < 0 then -1 else 0
def Sk.al (s : Sk) (z : P2) : Int := sg (s.2.2.1 - s.1) * z.1 + sg (s.2.2.2 - s.2.1) * z.2
structure StepR (Z : P2 → Prop) (s : Sk) (a b : P2) : Prop where
  za : Z a
  zb : Z b
  ga : s.Go a
  gb : s.Go b
  lt : s.al a < s.al b
  no : ∀ z, Z z → s.Go z → s.al a < s.al z → s.al z < s.al b → False
def Sk.gr (s : Sk) : Gr := ⟨((s.2.2.2 : Rat) - s.2.1) / ((s.2.2.1 : Rat) - s.1), (s.2.1 : Rat) - ((s.2.2.2 : Rat) - s.2.1) / ((s.2.2.1 : Rat) - s.1) * s.1, s.1, s.2.2.1⟩
theorem gr_k {s : Sk} (h : s.1 < s.2.2.1) : s.gr.k * ((s.2.2.1 : Rat) - s.1) = (s.2.2.2 : Rat) - s.2.1 := by
  have := c1 h
  unfold Sk.gr
  dsimp only
  grind
theorem gr_at {s : Sk} (h : s.1 < s.2.2.1) (t : Rat) : s.gr.at (s.x t) = s.y t := by
  have h1 := gr_k h
  have : s.gr.at (s.x t) = (s.2.1 : Rat) + s.gr.k * (s.x t - s.1) := by
    unfold Gr.at
    show _ + ((s.2.1 : Rat) - s.gr.k * s.1) = _
    grind
  rw [this]
  unfold Sk.x Sk.y
  grind
theorem gr_par {s : Sk} (h : s.1 < s.2.2.1) {x : Rat} (l : s.gr.lo ≤ x) (u : x ≤ s.gr.hi) : ∃ t : Rat, 0 ≤ t ∧ t ≤ 1 ∧ s.x t = x := by
  have h1 := c1 h
  have l' : (s.1 : Rat) ≤ x := l
  have u' : x ≤ (s.2.2.1 : Rat) := u
  have hd : (0 : Rat) < (s.2.2.1 : Rat) - s.1 := by grind
  have e : ((s.2.2.1 : Rat) - s.1) * ((x - s.1) / ((s.2.2.1 : Rat) - s.1)) = x - s.1 := by grind
  refine ⟨(x - s.1) / ((s.2.2.1 : Rat) - s.1), ?_, ?_, ?_⟩
  · apply Rat.not_lt.mp
    intro z
    have := mulp hd z
    grind
  · apply Rat.not_lt.mp
    intro z
    have := mulp hd z
    grind
  · unfold Sk.x
    rw [e]
    grind
theorem x_in {s : Sk} (h : s.1 < s.2.2.1) {t : Rat} (t0 : 0 ≤ t) (t1 : t ≤ 1) : s.gr.lo ≤ s.x t ∧ s.x t ≤ s.gr.hi := by
  have h1 := c1 h
  have hd : (0 : Rat) ≤ (s.2.2.1 : Rat) - s.1 := by grind
  have q1 := mulm hd t0
  have q2 := mulm hd t1
  show (s.1 : Rat) ≤ s.x t ∧ s.x t ≤ (s.2.2.1 : Rat)
  unfold Sk.x
  grind
theorem gr_go {s : Sk} (h : s.1 < s.2.2.1) {z : P2} : s.gr.Go z ↔ s.Go z := by
  constructor
  · rintro ⟨x, l, u, i, j⟩
    obtain ⟨t, t0, t1, rfl⟩ := gr_par h l u
    exact ⟨t, t0, t1, i, by rw [gr_at h] at j; exact j⟩
  · rintro ⟨t, t0, t1, i, j⟩
    obtain ⟨l, u⟩ := x_in h t0 t1
    exact ⟨s.x t, l, u, i, by rw [gr_at h]; exact j⟩
theorem meets_gr {Z : P2 → Prop} {s t : Sk} (hs : s.1 < s.2.2.1) (ht : t.1 < t.2.2.1) (M : MeetS Z s t) : Meets Z s.gr t.gr := fun x l u l' u' e nk z i j => by
  obtain ⟨p, p0, p1, ep⟩ := gr_par hs l u
  obtain ⟨q, q0, q1, eq⟩ := gr_par ht l' u'
  have k1 := gr_at hs p
  have k2 := gr_at ht q
  rw [ep] at k1
  rw [eq] at k2
  refine M p q p0 p1 q0 q1 (by rw [ep, eq]) (by rw [← k1, ← k2]; exact e) (fun hp => nk ?_) z (by rw [ep]; exact i) (by rw [← k1]; exact j)
  have h1 := gr_k hs
  have h2 := gr_k ht
  have d1 := c1 hs
  have d2 := c1 ht
  have hp' : ((s.2.2.1 : Rat) - s.1) * ((t.2.2.2 : Rat) - t.2.1) = ((s.2.2.2 : Rat) - s.2.1) * ((t.2.2.1 : Rat) - t.1) := by
    have := congrArg (fun i : Int => (i : Rat)) hp
    simp only [Rat.intCast_mul, Rat.intCast_sub] at this
    exact this
  rw [← h1, ← h2] at hp'
  have hne : ((s.2.2.1 : Rat) - s.1) * ((t.2.2.1 : Rat) - t.1) ≠ 0 := by
    have := Rat.mul_pos (a := (s.2.2.1 : Rat) - s.1) (b := (t.2.2.1 : Rat) - t.1) (by grind) (by grind)
    grind
  grind
/-- the order along a stroke that goes to the right -/
theorem al_lt {s : Sk} (h : s.1 < s.2.2.1) {z w : P2} (gz : s.Go z) (gw : s.Go w) (l : z.1 < w.1) : s.al z < s.al w := by
  obtain ⟨xz, z1, z2, z3, z4⟩ := (gr_go h).mpr gz
  obtain ⟨xw, w1, w2, w3, w4⟩ := (gr_go h).mpr gw
  have e := Rat.le_of_lt (z3.lt w3 l)
  have hk := gr_k h
  have hd := c1 h
  have mono : s.2.1 < s.2.2.2 → z.2 ≤ w.2 := fun c => by
    have k0 : 0 ≤ s.gr.k := by
      apply Rat.not_lt.mp
      intro n
      have := mulnp n (show (0 : Rat) < (s.2.2.1 : Rat) - s.1 by grind)
      have := c1 c
      grind
    have m := Gr.mono k0 e
    apply Int.not_lt.mp
    intro n
    have := w4.lt z4 n
    grind
  have anti : s.2.2.2 < s.2.1 → w.2 ≤ z.2 := fun c => by
    have k0 : s.gr.k ≤ 0 := by
      apply Rat.not_lt.mp
      intro n
      have := mulp n (show (0 : Rat) < (s.2.2.1 : Rat) - s.1 by grind)
      have := c1 c
      grind
    have m := Gr.anti k0 e
    apply Int.not_lt.mp
    intro n
    have := z4.lt w4 n
    grind
  unfold Sk.al sg
  rcases Int.lt_trichotomy s.2.1 s.2.2.2 with c | c | c
  · have := mono c
    rw [if_pos (by omega), if_pos (by omega)]
    omega
  · rw [if_pos (by omega), if_neg (by omega), if_neg (by omega)]
    omega
  · have := anti c
    rw [if_pos (by omega), if_neg (by omega), if_pos (by omega)]
    omega
theorem sign_k {s : Sk} (h : s.1 < s.2.2.1) : (0 < s.gr.k → s.2.1 < s.2.2.2) ∧ (s.gr.k < 0 → s.2.2.2 < s.2.1) := by
  have hk := gr_k h
  have hd := c1 h
  constructor
  · intro k
    have := Rat.mul_pos k (show (0 : Rat) < (s.2.2.1 : Rat) - s.1 by grind)
    exact ilt (by grind)
  · intro k
    have := mulnp k (show (0 : Rat) < (s.2.2.1 : Rat) - s.1 by grind)
    exact ilt (by grind)
theorem StepR.stp {Z : P2 → Prop} {s : Sk} {a b : P2} (S : StepR Z s a b) (h : s.1 < s.2.2.1) (n : a.1 ≠ b.1) : Stp Z s.gr a b where
  za := S.za
  zb := S.zb
  ga := (gr_go h).mpr S.ga
  gb := (gr_go h).mpr S.gb
  lt := by
    apply Int.not_le.mp
    intro l
    have := al_lt h S.gb S.ga (by omega)
    have := S.lt
    omega
  mid := fun z zz gz l1 l2 => by
    have gz := (gr_go h).mp gz
    exact S.no z zz gz (al_lt h S.ga gz l1) (al_lt h gz S.gb l2)
  la := fun z zz gz e => by
    have gz := (gr_go h).mp gz
    have lt : a.1 < b.1 := by
      apply Int.not_le.mp
      intro l
      have := al_lt h S.gb S.ga (by omega)
      have := S.lt
      omega
    have zb := al_lt h gz S.gb (by omega)
    have sk := sign_k h
    have no : ¬(s.al a < s.al z) := fun l => S.no z zz gz l zb
    unfold Sk.al sg at no
    rw [if_pos (by omega)] at no
    constructor
    · intro k
      have := sk.1 k
      rw [if_pos (by omega)] at no
      omega
    · intro k
      have := sk.2 k
      rw [if_neg (by omega), if_pos (by omega)] at no
      omega
  lb := fun z zz gz e => by
    have gz := (gr_go h).mp gz
    have lt : a.1 < b.1 := by
      apply Int.not_le.mp
      intro l
      have := al_lt h S.gb S.ga (by omega)
      have := S.lt
      omega
    have az := al_lt h S.ga gz (by omega)
    have sk := sign_k h
    have no : ¬(s.al z < s.al b) := fun l => S.no z zz gz az l
    unfold Sk.al sg at no
    rw [if_pos (by omega)] at no
    constructor
    · intro k
      have := sk.1 k
      rw [if_pos (by omega)] at no
      omega
    · intro k
      have := sk.2 k
      rw [if_neg (by omega), if_pos (by omega)] at no
      omega
/-! ### turned about, exchanged -/
def Sk.tn (s : Sk) : Sk := (s.2.2.1, s.2.2.2, s.1, s.2.1)
def Sk.fl (s : Sk) : Sk := (s.2.1, s.1, s.2.2.2, s.2.2.1)
def fl (z : P2) : P2 := (z.2, z.1)
theorem tn_x {s : Sk} {t : Rat} : s.tn.x t = s.x (1 - t) := by unfold Sk.x Sk.tn; grind
theorem tn_y {s : Sk} {t : Rat} : s.tn.y t = s.y (1 - t) := by unfold Sk.y Sk.tn; grind
theorem tn_go {s : Sk} {z : P2} : s.tn.Go z ↔ s.Go z := by
  constructor
  · rintro ⟨t, t0, t1, i, j⟩
    exact ⟨1 - t, by grind, by grind, by rw [← tn_x]; exact i, by rw [← tn_y]; exact j⟩
  · rintro ⟨t, t0, t1, i, j⟩
    refine ⟨1 - t, by grind, by grind, ?_, ?_⟩
    · rw [tn_x, show (1 : Rat) - (1 - t) = t by grind]; exact i
    · rw [tn_y, show (1 : Rat) - (1 - t) = t by grind]; exact j
theorem fl_go {s : Sk} {z : P2} : s.fl.Go (fl z) ↔ s.Go z := by
  constructor
  · rintro ⟨t, t0, t1, i, j⟩
    exact ⟨t, t0, t1, j, i⟩
  · rintro ⟨t, t0, t1, i, j⟩
    exact ⟨t, t0, t1, j, i⟩
theorem sg_neg (i : Int) : sg (-i) = -sg i := by
  unfold sg
  split <;> split <;> (try split) <;> omega
theorem tn_al {s : Sk} {z : P2} : s.tn.al z = -s.al z := by
  unfold Sk.al Sk.tn
  dsimp only
  rw [show s.1 - s.2.2.1 = -(s.2.2.1 - s.1) by omega, show s.2.1 - s.2.2.2 = -(s.2.2.2 - s.2.1) by omega, sg_neg, sg_neg, Int.neg_mul, Int.neg_mul]
  omega
theorem fl_al {s : Sk} {z : P2} : s.fl.al (fl z) = s.al z := by
  unfold Sk.al Sk.fl fl
  dsimp only
  omega
theorem StepR.tn {Z : P2 → Prop} {s : Sk} {a b : P2} (S : StepR Z s a b) : StepR Z s.tn b a where
  za := S.zb
  zb := S.za
  ga := tn_go.mpr S.gb
  gb := tn_go.mpr S.ga
  lt := by
    rw [tn_al, tn_al]
    have := S.lt
    omega
  no := fun z zz gz l1 l2 => by
    rw [tn_al, tn_al] at l1 l2
    exact S.no z zz (tn_go.mp gz) (by omega) (by omega)
theorem StepR.fl {Z : P2 → Prop} {s : Sk} {a b : P2} (S : StepR Z s a b) : StepR (fun z => Z (Pl.fl z)) s.fl (Pl.fl a) (Pl.fl b) where
  za := S.za
  zb := S.zb
  ga := fl_go.mpr S.ga
  gb := fl_go.mpr S.gb
  lt := by
    rw [fl_al, fl_al]
    exact S.lt
  no := fun z zz gz l1 l2 => by
    have e : z = Pl.fl (Pl.fl z) := rfl
    rw [e, fl_al] at l1 l2
    rw [fl_al] at l1 l2
    rw [e] at gz
    exact S.no (Pl.fl z) zz (fl_go.mp gz) l1 l2
theorem par_tn {s t : Sk} : s.tn.par t ↔ s.par t := by
  unfold Sk.par Sk.tn
  dsimp only
  rw [show s.1 - s.2.2.1 = -(s.2.2.1 - s.1) by omega, show s.2.1 - s.2.2.2 = -(s.2.2.2 - s.2.1) by omega, Int.neg_mul, Int.neg_mul]
  omega
theorem par_sym {s t : Sk} : s.par t ↔ t.par s := by
  unfold Sk.par
  rw [Int.mul_comm (s.2.2.1 - s.1), Int.mul_comm (s.2.2.2 - s.2.1)]
  exact ⟨fun h => h.symm, fun h => h.symm⟩
theorem MeetS.tn {Z : P2 → Prop} {s t : Sk} (M : MeetS Z s t) : MeetS Z s.tn t := fun p q p0 p1 q0 q1 ex ey np z i j => by
  rw [tn_x] at ex i
  rw [tn_y] at ey j
  exact M (1 - p) q (by grind) (by grind) q0 q1 ex ey (fun h => np (par_tn.mpr h)) z i j
theorem MeetS.symm {Z : P2 → Prop} {s t : Sk} (M : MeetS Z s t) : MeetS Z t s := fun p q p0 p1 q0 q1 ex ey np z i j => by
  exact M q p q0 q1 p0 p1 ex.symm ey.symm (fun h => np (par_sym.mp h)) z (by rw [← ex]; exact i) (by rw [← ey]; exact j)
theorem MeetS.fl {Z : P2 → Prop} {s t : Sk} (M : MeetS Z s t) : MeetS (fun z => Z (Pl.fl z)) s.fl t.fl := fun p q p0 p1 q0 q1 ex ey np z i j => by
  exact M p q p0 p1 q0 q1 ey ex (fun h => np (by unfold Sk.par Sk.fl at *; dsimp only at *; omega)) (Pl.fl z) j i
/-- a step that isn't upright: its stroke, or this turned about, goes to the right -/
theorem StepR.right {Z : P2 → Prop} {s : Sk} {a b : P2} (S : StepR Z s a b) (n : a.1 ≠ b.1) : s.1 < s.2.2.1 ∨ s.tn.1 < s.tn.2.2.1 := by
  rcases Int.lt_trichotomy s.1 s.2.2.1 with h | h | h
  · exact .inl h
  · exfalso
    obtain ⟨t, _, _, i, _⟩ := S.ga
    obtain ⟨u, _, _, j, _⟩ := S.gb
    have e : ∀ t, s.x t = s.1 := fun t => by unfold Sk.x; rw [h]; grind
    rw [e] at i j
    exact n (i.uniq j)
  · exact .inr h
theorem slope {a b : P2} (n : a.1 ≠ b.1) : ∃ k : Rat, k * ((b.1 : Rat) - a.1) = (b.2 : Rat) - a.2 := by
  have : (b.1 : Rat) - a.1 ≠ 0 := by
    rcases Int.lt_or_gt_of_ne n with h | h
    · have := c1 h
      grind
    · have := c1 h
      grind
  exact ⟨((b.2 : Rat) - a.2) / ((b.1 : Rat) - a.1), by grind⟩
/-- the point z lies on the step at p -/
def On (a b : P2) (p X Y : Rat) : Prop := 0 ≤ p ∧ p ≤ 1 ∧ X = (a.1 : Rat) + ((b.1 : Rat) - a.1) * p ∧ Y = (a.2 : Rat) + ((b.2 : Rat) - a.2) * p
theorem On.tn {a b : P2} {p X Y : Rat} (h : On a b p X Y) : On b a (1 - p) X Y := by
  obtain ⟨h1, h2, h3, h4⟩ := h
  exact ⟨by grind, by grind, by grind, by grind⟩
theorem On.fl {a b : P2} {p X Y : Rat} (h : On a b p X Y) : On (Pl.fl a) (Pl.fl b) p Y X := ⟨h.1, h.2.1, h.2.2.2, h.2.2.1⟩
theorem on_in {a b : P2} {p X Y : Rat} (l : a.1 < b.1) (h : On a b p X Y) (p0 : p ≠ 0) (p1 : p ≠ 1) : (a.1 : Rat) < X ∧ X < (b.1 : Rat) := by
  obtain ⟨h1, h2, h3, h4⟩ := h
  have := c1 l
  have q1 := mulp (show (0 : Rat) < (b.1 : Rat) - a.1 by grind) (show (0 : Rat) < p by grind)
  have q2 := mulp (show (0 : Rat) < (b.1 : Rat) - a.1 by grind) (show p < (1 : Rat) by grind)
  grind
theorem on_line {a b : P2} {p X Y k : Rat} (hk : k * ((b.1 : Rat) - a.1) = (b.2 : Rat) - a.2) (h : On a b p X Y) : (a.2 : Rat) + k * (X - a.1) = Y := by
  obtain ⟨h1, h2, h3, h4⟩ := h
  grind
theorem eqi {i j : Int} (h : (i : Rat) = (j : Rat)) : i = j := Rat.intCast_inj.mp h
theorem noIn1 {Z : P2 → Prop} {s : Sk} {a b z : P2} {p : Rat} (S : StepR Z s a b) (n : a.1 ≠ b.1) (hz : Z z) (h : On a b p z.1 z.2) : p = 0 ∨ p = 1 := by
  have go : ∀ {s : Sk} {a b : P2} {p : Rat}, StepR Z s a b → a.1 ≠ b.1 → On a b p z.1 z.2 → s.1 < s.2.2.1 → p = 0 ∨ p = 1 := fun {s a b p} S n h r => by
    by_cases p0 : p = 0
    · exact .inl p0
    · by_cases p1 : p = 1
      · exact .inr p1
      · exfalso
        have F := S.stp r n
        obtain ⟨k, hk⟩ := slope n
        obtain ⟨l, u⟩ := on_in F.lt h p0 p1
        exact noIn F hk hz (ilt l) (ilt u) (on_line hk h)
  rcases S.right n with r | r
  · exact go S n h r
  · rcases go S.tn (fun e => n e.symm) h.tn r with e | e
    · exact .inr (by grind)
    · exact .inl (by grind)
/-- no hot square within a step -/
theorem noIn2 {Z : P2 → Prop} {s : Sk} {a b z : P2} {p : Rat} (S : StepR Z s a b) (hz : Z z) (h : On a b p z.1 z.2) : z = a ∨ z = b := by
  have ne : a ≠ b := fun e => by
    have := S.lt
    rw [e] at this
    omega
  have hp : p = 0 ∨ p = 1 := by
    by_cases n : a.1 = b.1
    · have n2 : (fl a).1 ≠ (fl b).1 := fun e => ne (Prod.ext n e)
      exact noIn1 (z := fl z) S.fl n2 hz h.fl
    · exact noIn1 S n hz h
  obtain ⟨_, _, e1, e2⟩ := h
  rcases hp with rfl | rfl
  · left
    exact Prod.ext (eqi (by grind)) (eqi (by grind))
  · right
    exact Prod.ext (eqi (by grind)) (eqi (by grind))
/-- a step to the right and an upright one -/
theorem noV {Z : P2 → Prop} {f : Gr} {t : Sk} {a b c d : P2} {kp : Rat} (F : Stp Z f a b) (hp : kp * ((b.1 : Rat) - a.1) = (b.2 : Rat) - a.2) (zc : Z c) (zd : Z d) (gc : t.Go c) (gd : t.Go d) (e : c.1 = d.1) (h1 : a.1 < c.1) (h2 : c.1 < b.1) (lc : (c.2 : Rat) ≤ (a.2 : Rat) + kp * ((c.1 : Rat) - a.1)) (ld : (a.2 : Rat) + kp * ((c.1 : Rat) - a.1) ≤ d.2)
    (M : ∀ x q : Rat, f.lo ≤ x → x ≤ f.hi → 0 ≤ q → q ≤ 1 → x = t.x q → f.at x = t.y q → (t.y 1 - t.y 0 ≠ f.k * (t.x 1 - t.x 0)) → ∀ z : P2, InR z.1 x → InR z.2 (f.at x) → Z z)
    (no : ∀ z, Z z → t.Go z → z.1 = c.1 → c.2 < z.2 → z.2 < d.2 → False) : False := by
  have ext := strip_in F.ga F.gb h1 h2
  have sc := side_dn F.ga F.gb h1 h2 hp (fun h => F.mid c zc h h1 h2) lc
  have sd := side_up (z := d) F.ga F.gb (by omega) (by omega) hp (fun h => F.mid d zd h (by omega) (by omega)) (by rw [← e]; exact ld)
  obtain ⟨p, p0, p1, i1, j1⟩ := gc
  obtain ⟨q, q0, q1, i2, j2⟩ := gd
  have e1 := sc _ i1
  have e2 := sd _ i2
  rw [← e] at i2
  have jc := j1.2
  have jd := j2.1
  have lin : ∀ r : Rat, t.y r - f.at (t.x r) = ((t.y 1 - t.y 0) - f.k * (t.x 1 - t.x 0)) * r + (t.y 0 - f.at (t.x 0)) := fun r => by
    unfold Sk.x Sk.y Gr.at
    grind
  have hr : ∃ r : Rat, 0 ≤ r ∧ r ≤ 1 ∧ InR c.1 (t.x r) ∧ t.y r = f.at (t.x r) := by
    have inx : ∀ r : Rat, ((p ≤ r ∧ r ≤ q) ∨ (q ≤ r ∧ r ≤ p)) → InR c.1 (t.x r) := fun r hr => by
      rcases Rat.le_total (a := 0) (b := (t.2.2.1 : Rat) - t.1) with z | z
      · rcases hr with ⟨a1, a2⟩ | ⟨a1, a2⟩
        · have m1 := mulm z a1
          have m2 := mulm z a2
          unfold InR Sk.x at *
          grind
        · have m1 := mulm z a1
          have m2 := mulm z a2
          unfold InR Sk.x at *
          grind
      · rcases hr with ⟨a1, a2⟩ | ⟨a1, a2⟩
        · have m1 := muln z a1
          have m2 := muln z a2
          unfold InR Sk.x at *
          grind
        · have m1 := muln z a1
          have m2 := muln z a2
          unfold InR Sk.x at *
          grind
    have l1 := lin p
    have l2 := lin q
    rcases Rat.le_total (a := p) (b := q) with z | z
    · obtain ⟨r, r1, r2, r3⟩ := ivt (k := (t.y 1 - t.y 0) - f.k * (t.x 1 - t.x 0)) (m := t.y 0 - f.at (t.x 0)) (y := 0) z (by grind) (by grind)
      exact ⟨r, by grind, by grind, inx r (.inl ⟨r1, r2⟩), by have := lin r; grind⟩
    · obtain ⟨r, r1, r2, r3⟩ := ivt' (k := (t.y 1 - t.y 0) - f.k * (t.x 1 - t.x 0)) (m := t.y 0 - f.at (t.x 0)) (y := 0) z (by grind) (by grind)
      exact ⟨r, by grind, by grind, inx r (.inr ⟨r1, r2⟩), by have := lin r; grind⟩
  obtain ⟨r, r0, r1, ir, er⟩ := hr
  have ex := ext _ ir
  have a1 := sc _ ir
  have a2 := sd (t.x r) (by rw [← e]; exact ir)
  obtain ⟨j, hj⟩ := near_ex (f.at (t.x r))
  refine no (c.1, j) (M (t.x r) r ex.1 ex.2 r0 r1 rfl er.symm (fun z => ?_) (c.1, j) ir hj) ⟨r, r0, r1, ir, by rw [er]; exact hj⟩ rfl (hj.gt a1) (hj.below (j := d.2) a2)
  have l1 := lin p
  have l2 := lin q
  rw [z] at l1 l2
  grind
theorem StepR.ne {Z : P2 → Prop} {s : Sk} {a b : P2} (S : StepR Z s a b) : a ≠ b := fun e => by
  have := S.lt
  rw [e] at this
  omega
/-- along one another: the same step -/
theorem along1 {Z : P2 → Prop} {s t : Sk} {a b c d : P2} {p q X Y r : Rat} (S : StepR Z s a b) (T : StepR Z t c d) (h1 : On a b p X Y) (h2 : On c d q X Y) (r0 : 0 < r) (e1 : (d.1 : Rat) - c.1 = r * ((b.1 : Rat) - a.1)) (e2 : (d.2 : Rat) - c.2 = r * ((b.2 : Rat) - a.2)) (p0 : p ≠ 0) (p1 : p ≠ 1) (q0 : q ≠ 0) (q1 : q ≠ 1) : a = c ∧ b = d := by
  obtain ⟨a1, a2, a3, a4⟩ := h1
  obtain ⟨b1, b2, b3, b4⟩ := h2
  have hp0 : 0 < p := by grind
  have hp1 : p < 1 := by grind
  have hq0 : 0 < q := by grind
  have hq1 : q < 1 := by grind
  have m1 := mulp r0 hq0
  have m2 := mulp r0 hq1
  have cx : (c.1 : Rat) = (a.1 : Rat) + ((b.1 : Rat) - a.1) * (p - r * q) := by grind
  have cy : (c.2 : Rat) = (a.2 : Rat) + ((b.2 : Rat) - a.2) * (p - r * q) := by grind
  have dx : (d.1 : Rat) = (a.1 : Rat) + ((b.1 : Rat) - a.1) * (p + r * (1 - q)) := by grind
  have dy : (d.2 : Rat) = (a.2 : Rat) + ((b.2 : Rat) - a.2) * (p + r * (1 - q)) := by grind
  have far : ∀ u v : Rat, u ≠ v → (a.1 : Rat) + ((b.1 : Rat) - a.1) * u = (a.1 : Rat) + ((b.1 : Rat) - a.1) * v → (a.2 : Rat) + ((b.2 : Rat) - a.2) * u = (a.2 : Rat) + ((b.2 : Rat) - a.2) * v → False := fun u v n z1 z2 => by
    have k1 : (b.1 : Rat) - a.1 = 0 := by grind
    have k2 : (b.2 : Rat) - a.2 = 0 := by grind
    exact S.ne (Prod.ext (eqi (by grind)) (eqi (by grind)))
  obtain ⟨w, ri⟩ : ∃ w : Rat, r * w = 1 := ⟨1 / r, by grind⟩
  have rp : 0 < w := by
    apply Rat.not_le.mp
    intro z
    have := mulm (Rat.le_of_lt r0) z
    grind
  have w1 := mulp rp hp0
  have w2 := mulp rp hp1
  have ac : a = c := by
    rcases Rat.le_total (a := 0) (b := p - r * q) with z | z
    · rcases noIn2 (z := c) (p := p - r * q) S T.za ⟨z, by grind, cx, cy⟩ with e | e
      · exact e.symm
      · exfalso
        rw [e] at cx cy
        exact far (p - r * q) 1 (by grind) (by grind) (by grind)
    · have m3 := mulm (Rat.le_of_lt rp) z
      have m4 : w * (p - r * q) = w * p - q := by grind
      rcases noIn2 (z := a) (p := q - w * p) T S.za ⟨by grind, by grind, by grind, by grind⟩ with e | e
      · exact e
      · exfalso
        rw [← e] at dx dy
        exact far (p + r * (1 - q)) 0 (by grind) (by grind) (by grind)
  have bd : b = d := by
    rcases Rat.le_total (a := p + r * (1 - q)) (b := 1) with z | z
    · rcases noIn2 (z := d) (p := p + r * (1 - q)) S T.zb ⟨by grind, z, dx, dy⟩ with e | e
      · exfalso
        rw [e] at dx dy
        exact far (p + r * (1 - q)) 0 (by grind) (by grind) (by grind)
      · exact e.symm
    · have m3 := mulm (Rat.le_of_lt rp) z
      have m4 : w * (p + r * (1 - q)) = w * p + 1 - q := by grind
      rcases noIn2 (z := b) (p := q + w * (1 - p)) T S.zb ⟨by grind, by grind, by grind, by grind⟩ with e | e
      · exfalso
        rw [← e] at cx cy
        exact far (p - r * q) 1 (by grind) (by grind) (by grind)
      · exact e
  exact ⟨ac, bd⟩
theorem castp {a b c d : P2} (h : (b.1 - a.1) * (d.2 - c.2) = (b.2 - a.2) * (d.1 - c.1)) : ((b.1 : Rat) - a.1) * ((d.2 : Rat) - c.2) = ((b.2 : Rat) - a.2) * ((d.1 : Rat) - c.1) := by
  have := congrArg (fun i : Int => (i : Rat)) h
  simp only [Rat.intCast_mul, Rat.intCast_sub] at this
  exact this
/-- two steps to the right -/
theorem noX1 {Z : P2 → Prop} {s t : Sk} {a b c d : P2} {p q X Y : Rat} (S : StepR Z s a b) (T : StepR Z t c d) (M : MeetS Z s t) (hs : s.1 < s.2.2.1) (ht : t.1 < t.2.2.1) (n1 : a.1 ≠ b.1) (n2 : c.1 ≠ d.1) (h1 : On a b p X Y) (h2 : On c d q X Y) (p0 : p ≠ 0) (p1 : p ≠ 1) (q0 : q ≠ 0) (q1 : q ≠ 1) (np : ((b.1 : Rat) - a.1) * ((d.2 : Rat) - c.2) ≠ ((b.2 : Rat) - a.2) * ((d.1 : Rat) - c.1)) : False := by
  have F := S.stp hs n1
  have G := T.stp ht n2
  have MG := meets_gr hs ht M
  obtain ⟨k, hk⟩ := slope n1
  obtain ⟨k', hk'⟩ := slope n2
  obtain ⟨xa, xb⟩ := on_in F.lt h1 p0 p1
  obtain ⟨xc, xd⟩ := on_in G.lt h2 q0 q1
  have l1 := on_line hk h1
  have l2 := on_line hk' h2
  have ne : k ≠ k' := fun e => np (by rw [← hk, ← hk', e]; grind)
  rcases Rat.le_total (a := k) (b := k') with z | z
  · exact noX G F MG.symm hk' hk xc xd xa xb (by rw [l1, l2]) (by grind)
  · exact noX F G MG hk hk' xa xb xc xd (by rw [l1, l2]) (by grind)
/-- a step to the right and an upright one -/
theorem noV1 {Z : P2 → Prop} {s t : Sk} {a b c d : P2} {p q X Y : Rat} (S : StepR Z s a b) (T : StepR Z t c d) (M : MeetS Z s t) (hs : s.1 < s.2.2.1) (n1 : a.1 ≠ b.1) (n2 : c.1 = d.1) (lt : c.2 < d.2) (h1 : On a b p X Y) (h2 : On c d q X Y) (p0 : p ≠ 0) (p1 : p ≠ 1) : False := by
  have F := S.stp hs n1
  obtain ⟨k, hk⟩ := slope n1
  obtain ⟨xa, xb⟩ := on_in F.lt h1 p0 p1
  have l1 := on_line hk h1
  obtain ⟨q0, q1, q2, q3⟩ := h2
  have eX : X = (c.1 : Rat) := by
    rw [q2, n2]
    grind
  rw [eX] at xa xb l1
  have hd := c1 lt
  have m1 := mulm (show (0 : Rat) ≤ (d.2 : Rat) - c.2 by grind) q0
  have m2 := mulm (show (0 : Rat) ≤ (d.2 : Rat) - c.2 by grind) q1
  refine noV F hk T.za T.zb T.ga T.gb n2 (ilt xa) (ilt xb) (by rw [l1]; grind) (by rw [l1]; grind) (fun x r e1 e2 r0 r1 ex ey nk z i j => ?_) fun z zz gz ez l2 l3 => ?_
  · obtain ⟨u, u0, u1, rfl⟩ := gr_par hs e1 e2
    rw [gr_at hs] at ey j
    refine M u r u0 u1 r0 r1 ex ey (fun hp => nk ?_) z i j
    have hg := gr_k hs
    have hp' := castp (a := (s.1, s.2.1)) (b := (s.2.2.1, s.2.2.2)) (c := (t.1, t.2.1)) (d := (t.2.2.1, t.2.2.2)) hp
    have := c1 hs
    unfold Sk.x Sk.y
    dsimp only at hp'
    grind
  · have al := T.lt
    have sgc : sg (t.2.2.2 - t.2.1) = 1 ∨ sg (t.2.2.2 - t.2.1) = -1 ∨ sg (t.2.2.2 - t.2.1) = 0 := by
      unfold sg
      split
      · exact .inl rfl
      · split
        · exact .inr (.inl rfl)
        · exact .inr (.inr rfl)
    unfold Sk.al at al
    rw [← n2] at al
    have s1 : sg (t.2.2.2 - t.2.1) = 1 := by
      rcases sgc with e | e | e
      · exact e
      · rw [e] at al
        omega
      · rw [e] at al
        omega
    refine T.no z zz gz ?_ ?_
    · unfold Sk.al
      rw [ez, s1]
      omega
    · unfold Sk.al
      rw [ez, s1, ← n2]
      omega
theorem noX2 {Z : P2 → Prop} {s t : Sk} {a b c d : P2} {p q X Y : Rat} (S : StepR Z s a b) (T : StepR Z t c d) (M : MeetS Z s t) (hs : s.1 < s.2.2.1) (n1 : a.1 ≠ b.1) (h1 : On a b p X Y) (h2 : On c d q X Y) (p0 : p ≠ 0) (p1 : p ≠ 1) (q0 : q ≠ 0) (q1 : q ≠ 1) (np : ((b.1 : Rat) - a.1) * ((d.2 : Rat) - c.2) ≠ ((b.2 : Rat) - a.2) * ((d.1 : Rat) - c.1)) : False := by
  by_cases n2 : c.1 = d.1
  · rcases Int.lt_trichotomy c.2 d.2 with h | h | h
    · exact noV1 S T M hs n1 n2 h h1 h2 p0 p1
    · exact T.ne (Prod.ext n2 h)
    · exact noV1 S T.tn (M.symm.tn.symm) hs n1 n2.symm h h1 h2.tn p0 p1
  · rcases T.right n2 with r | r
    · exact noX1 S T M hs r n1 n2 h1 h2 p0 p1 q0 q1 np
    · exact noX1 S T.tn (M.symm.tn.symm) hs r n1 (fun e => n2 e.symm) h1 h2.tn p0 p1 (by grind) (by grind) (by grind)
theorem noX3 {Z : P2 → Prop} {s t : Sk} {a b c d : P2} {p q X Y : Rat} (S : StepR Z s a b) (T : StepR Z t c d) (M : MeetS Z s t) (n1 : a.1 ≠ b.1) (h1 : On a b p X Y) (h2 : On c d q X Y) (p0 : p ≠ 0) (p1 : p ≠ 1) (q0 : q ≠ 0) (q1 : q ≠ 1) (np : ((b.1 : Rat) - a.1) * ((d.2 : Rat) - c.2) ≠ ((b.2 : Rat) - a.2) * ((d.1 : Rat) - c.1)) : False := by
  rcases S.right n1 with r | r
  · exact noX2 S T M r n1 h1 h2 p0 p1 q0 q1 np
  · exact noX2 S.tn T M.tn r (fun e => n1 e.symm) h1.tn h2 (by grind) (by grind) q0 q1 (by grind)
/-- two steps have no place in common but an end of both, or are the same -/
theorem planar {Z : P2 → Prop} {s t : Sk} {a b c d : P2} {p q X Y : Rat} (S : StepR Z s a b) (T : StepR Z t c d) (M : MeetS Z s t) (h1 : On a b p X Y) (h2 : On c d q X Y) :
    (a = c ∧ b = d) ∨ (a = d ∧ b = c) ∨ ∃ e : P2, (e = a ∨ e = b) ∧ (e = c ∨ e = d) ∧ X = e.1 ∧ Y = e.2 := by
  by_cases p0 : p = 0
  · subst p0
    have ex : X = a.1 := by have := h1.2.2.1; grind
    have ey : Y = a.2 := by have := h1.2.2.2; grind
    exact .inr (.inr ⟨a, .inl rfl, noIn2 T S.za (by rw [← ex, ← ey]; exact h2), ex, ey⟩)
  by_cases p1 : p = 1
  · subst p1
    have ex : X = b.1 := by have := h1.2.2.1; grind
    have ey : Y = b.2 := by have := h1.2.2.2; grind
    exact .inr (.inr ⟨b, .inr rfl, noIn2 T S.zb (by rw [← ex, ← ey]; exact h2), ex, ey⟩)
  by_cases q0 : q = 0
  · subst q0
    have ex : X = c.1 := by have := h2.2.2.1; grind
    have ey : Y = c.2 := by have := h2.2.2.2; grind
    exact .inr (.inr ⟨c, noIn2 S T.za (by rw [← ex, ← ey]; exact h1), .inl rfl, ex, ey⟩)
  by_cases q1 : q = 1
  · subst q1
    have ex : X = d.1 := by have := h2.2.2.1; grind
    have ey : Y = d.2 := by have := h2.2.2.2; grind
    exact .inr (.inr ⟨d, noIn2 S T.zb (by rw [← ex, ← ey]; exact h1), .inr rfl, ex, ey⟩)
  by_cases np : ((b.1 : Rat) - a.1) * ((d.2 : Rat) - c.2) = ((b.2 : Rat) - a.2) * ((d.1 : Rat) - c.1)
  · have hr : ∃ r : Rat, r ≠ 0 ∧ (d.1 : Rat) - c.1 = r * ((b.1 : Rat) - a.1) ∧ (d.2 : Rat) - c.2 = r * ((b.2 : Rat) - a.2) := by
      by_cases k : (b.1 : Rat) - a.1 = 0
      · have k2 : (b.2 : Rat) - a.2 ≠ 0 := fun z => S.ne (Prod.ext (eqi (by grind)) (eqi (by grind)))
        have k3 : (d.1 : Rat) - c.1 = 0 := by rw [k] at np; grind
        refine ⟨((d.2 : Rat) - c.2) / ((b.2 : Rat) - a.2), fun z => ?_, by rw [k, k3]; grind, by grind⟩
        have k4 : (d.2 : Rat) - c.2 = 0 := by grind
        exact T.ne (Prod.ext (eqi (by grind)) (eqi (by grind)))
      · refine ⟨((d.1 : Rat) - c.1) / ((b.1 : Rat) - a.1), fun z => ?_, by grind, by grind⟩
        have k4 : (d.1 : Rat) - c.1 = 0 := by grind
        have k5 : (d.2 : Rat) - c.2 = 0 := by rw [k4] at np; grind
        exact T.ne (Prod.ext (eqi (by grind)) (eqi (by grind)))
    obtain ⟨r, r0, e1, e2⟩ := hr
    by_cases rp : 0 < r
    · exact .inl (along1 S T h1 h2 rp e1 e2 p0 p1 q0 q1)
    · obtain ⟨u, v⟩ := along1 (r := -r) S T.tn h1 h2.tn (by grind) (by grind) (by grind) p0 p1 (by grind) (by grind)
      exact .inr (.inl ⟨u, v⟩)
  · exfalso
    by_cases n1 : a.1 = b.1
    · by_cases n2 : c.1 = d.1
      · rw [n1, n2] at np
        grind
      · exact noX3 T S M.symm n2 h2 h1 q0 q1 p0 p1 (by grind)
    · exact noX3 S T M n1 h1 h2 p0 p1 q0 q1 np
end Pl

namespace DV
open PySem PySem.Spec PyProof.Rows L2
local macro_rules | `(tactic| walk_at "dv") => `(tactic| simp (config := { failIfUnchanged := false, implicitDefEqProofs := false }) only [↓e_fnT, ↓e_dCallT, ↓k_tk2_q, ↓k_tk_q, ↓e_dCallTK, ↓k_dDc_q, ↓e_dDc, ↓k_sK_l, ↓e_dSortK, ↓notInTD_t, ↓k_zipL_q, ↓e_dZipL, ↓k_zip_q, ↓e_iZipD, ↓k_enum_q, ↓e_iEnumD, ↓k_keys_q, ↓e_iKeysD, ↓k_vals_q, ↓e_iValsD, ↓k_items_q, ↓e_iItemsD, ↓k_tru_q, ↓e_dTru, ↓truD_l, ↓truD_t, ↓truD_b, ↓truD_n, ↓k_rev_q, ↓e_sRev, ↓k_clr_q, ↓e_sClr, ↓k_ins3_q, ↓k_ins2_q, ↓k_ins_q, ↓e_sIns, ↓k_move_q, ↓e_sMove, ↓k_lc2_q, ↓e_dLc2, ↓inTD_t, ↓notBD_bb, ↓dictK_d, fgs_n, fgs_c, fg_v, fg_t, fg_u, fg_o, ↓k_rtNl_q, ↓k_sSetO_q, ↓k_sRetO_q, ↓k_nl_q, ↓k_nls_q, ↓k_nlc_q, ↓k_back_q, ↓k_lend_q, ↓k_put2_q, ↓k_put1_q, ↓k_put_q, ↓e_fnO, ↓e_sSetO, ↓e_sRetO, ↓e_dBor, ↓e_dBorO, ↓e_dBorA, ↓e_dBorT, ↓frz_0u, ↓frz_0t, ↓e_sLend, ↓ownK_o, ↓e_sPutD, ↓e_dD0, ↓inKD_d, ↓notInKD_d, ↓k_for_q, ↓e_for_n, ↓e_for_c, ↓k_sAppend1_q, ↓k_sAppend_q, ↓k_sRetOwn_q, ↓k_sPar2_q, ↓k_sPar_q, ↓k_sPar33_q, ↓k_sPar3_q, ↓k_some_q, ↓k_asI_q, ↓k_asS_q, ↓k_rng1_q, ↓k_one_q, ↓k_rng22_q, ↓k_rng21_q, ↓k_rng2_q, ↓k_two_q, ↓k_non_q, ↓k_no_q, ↓k_sSet_q, ↓k_sAsg_q, ↓k_sAsg2_q, ↓k_sIf_q, ↓k_sDrop_q, ↓k_sOwn_q, ↓k_sFor_q, ↓k_gs_q, ↓k_dOp2_q, ↓k_dOp_q, ↓k_dCh4_q, ↓k_dCh3_q, ↓k_dCh2_q, ↓k_dCh1_q, ↓k_dUn_q, ↓k_dTest_q, ↓k_dAnd_q, ↓k_dOr_q, ↓k_dNot_q, ↓k_dAndV_q, ↓k_dOrV_q, ↓k_dIf_q, ↓k_dCons2_q, ↓k_dCons_q, ↓k_dTup_q, ↓k_dLst_q, ↓k_dCall_q, ↓k_dIsi_q, ↓k_dIsi2_q, ↓k_dSl3_q, ↓k_dSl2_q, ↓k_dSl_q, ↓k_dRev_q, ↓k_s3_q, ↓k_s3a_q, ↓k_s3b_q, ↓k_s3c_q, ↓e_dSl3, ↓sl3_r2, ↓sl3_rl, ↓k_dLc_q, ↓k_dB_q, ↓chB_b, ↓tsB_b, ↓dVar_s, ↓ownL_o, ↓ownD_o, ↓roL_l, ↓e_sAppend, ↓e_sRetOwn, ↓two_2, ↓three_3, ↓e_sPar, ↓e_sPar3, ↓asI_i, ↓e_dPart, ↓asS_l, ↓asS_t, ↓e_iSeq, ↓one_1, ↓e_iRng1D, ↓e_iRng2D, ↓wipeD_n, ↓wipeD_c, ↓frz_0, ↓frz_0v, ↓frz_s, ↓e_fnD, ↓e_sSeq, ↓e_sNext, ↓e_sBreak, ↓e_sCont, ↓e_sSet, ↓e_sAsg, ↓e_sAsg2, ↓e_sIf, ↓e_sRet, ↓e_sRetN, ↓e_sDrop, ↓e_sNever, ↓e_sOwn, ↓e_sFrz, ↓e_sFor, ↓e_gN, ↓e_gT_t, ↓e_gsNil_n, ↓e_gsCons_c, ↓e_dVar_0, ↓e_dVar_0t, ↓e_dC, ↓e_dOp, ↓e_dChain, ↓e_dUn, ↓e_dTest, ↓e_dAnd, ↓e_dOr, ↓e_dNot, ↓e_dAndV, ↓e_dOrV, ↓e_dIf, ↓e_dNil, ↓e_dCons, ↓e_dTup, ↓e_dLst, ↓e_dCall, ↓e_dB, ↓e_dIsi, ↓e_dIsi2, ↓e_dSl, ↓e_dRev, ↓e_dNo, ↓e_dYes, ↓e_dLc,
  ↓addD_ii, ↓addD_tt, ↓addD_ll, ↓subD_ii, ↓mulD_ii, ↓fdivD_ii, ↓modD_ii, ↓powD_10_9, ↓powD_10_6, ↓ltA_ii, ↓leA_ii, ↓gtA_ii, ↓geA_ii, ↓ltA_t2, ↓leA_t2, ↓gtA_t2, ↓geA_t2, ↓max2A_ii, ↓min2A_ii, ↓slh4, ↓slt4', ↓max2A_c, ↓min2A_c, ↓revD_l, ↓isNon_n, ↓isNon_t, ↓isNon_l, ↓notNon_n, ↓notNon_t, ↓isBD_bb, ↓negD_i, ↓notD_b, ↓absD_i, ↓intC_i, ↓intC_b, ↓lenD_l, ↓lenD_t, ↓listD_l, ↓listD_t, ↓tupleD_l, ↓tupleD_t, ↓allD_l, ↓anyD_l, ↓ixT0, ↓ixT1, ↓ixT2, ↓ixT3, ↓ixL0, ↓ixL1, ↓ixL2, ↓ixL3, ↓slD_l,
  eqD, neD,  sl0, sl1, sl2, sl3, sl4, sl5, sl6, sl7, sl8, sl9, sl10, sl11, sl12, slt0, slt1, slt2, slt3, slt4, slt5, slt6, slt7, slt8, slt9, slt10, slt11, slt12, lay_i, lay_b, lay_n, lay_t0, lay_l0, lay_t2, lay_t4, eqb_ii, eqb_bb, eqb_ss, eqb_nn, eqb_tt, eqb_ll, eqbs_nn, eqbs_cc, eqbs_nc, eqbs_cn, tag_n, tag_c, tagS_v, tagS_u, tagS_o, tagS_t, back_n, back_c, backS_vt, backS_tt, backS_ot, backS_ut, backS_u, backS_v, backS_l, backS_d, ownS_l, ownS_d, ownS_t, ownS_i, ownS_n, noLst_l, noLst_i, noLst_b, noLst_s, noLst_n, noLst_d, noLst_t, noLsts_n, noLsts_c, nlc_l, nlc_d, nlc_i, nlc_b, nlc_t, tyOk_n, tyOk_b, tyOk_i, tyOk_s, tyOk_t, tyOk_l, isi_n, isi_b, isi_i, isi_s, isi_t, isi_l,
  List.map_cons, List.map_nil, List.cons_append, List.nil_append, List.append_nil, List.append_assoc, List.length_cons, List.length_nil, List.getElem?_cons_zero, List.getElem?_cons_succ, List.set_cons_zero, List.set_cons_succ, List.replicate, Nat.reduceAdd, Nat.reduceSub, Nat.zero_add, Nat.reduceLeDiff, Nat.reduceEqDiff,
  if_true, if_false, true_and, and_true, and_self, Bool.not_true, Bool.not_false, Bool.false_eq_true, Bool.and_true, Bool.true_and, Bool.or_false, Bool.false_or, Bool.or_true, Bool.true_or, decide_eq_true_eq, decide_true, decide_false, beq_self_eq_true, beq_iff_eq, String.reduceEq, reduceIte, reduceCtorEq])
local macro_rules | `(tactic| walk_at "dw") => `(tactic| simp (config := { failIfUnchanged := false, implicitDefEqProofs := false }) only [↓e_fnT, ↓e_dCallT, ↓k_tk2_q, ↓k_tk_q, ↓e_dCallTK, ↓k_dDc_q, ↓e_dDc, ↓k_sK_l, ↓e_dSortK, ↓notInTD_t, ↓k_zipL_q, ↓e_dZipL, ↓k_zip_q, ↓e_iZipD, ↓k_enum_q, ↓e_iEnumD, ↓k_keys_q, ↓e_iKeysD, ↓k_vals_q, ↓e_iValsD, ↓k_items_q, ↓e_iItemsD, ↓k_tru_q, ↓e_dTru, ↓truD_l, ↓truD_t, ↓truD_b, ↓truD_n, ↓k_rev_q, ↓e_sRev, ↓k_clr_q, ↓e_sClr, ↓k_ins3_q, ↓k_ins2_q, ↓k_ins_q, ↓e_sIns, ↓k_move_q, ↓e_sMove, ↓k_lc2_q, ↓e_dLc2, ↓inTD_t, ↓notBD_bb, ↓dictK_d, fgs_n, fgs_c, fg_v, fg_t, fg_u, fg_o, ↓k_rtNl_q, ↓k_sSetO_q, ↓k_sRetO_q, ↓k_nl_q, ↓k_nls_q, ↓k_nlc_q, ↓k_back_q, ↓k_lend_q, ↓k_put2_q, ↓k_put1_q, ↓k_put_q, ↓e_fnO, ↓e_sSetO, ↓e_sRetO, ↓e_dBor, ↓e_dBorO, ↓e_dBorA, ↓e_dBorT, ↓frz_0u, ↓frz_0t, ↓e_sLend, ↓ownK_o, ↓e_sPutD, ↓e_dD0, ↓inKD_d, ↓notInKD_d, ↓k_for_q, ↓k_sAppend1_q, ↓k_sAppend_q, ↓k_sRetOwn_q, ↓k_sPar2_q, ↓k_sPar_q, ↓k_sPar33_q, ↓k_sPar3_q, ↓k_some_q, ↓k_asI_q, ↓k_asS_q, ↓k_rng1_q, ↓k_one_q, ↓k_rng22_q, ↓k_rng21_q, ↓k_rng2_q, ↓k_two_q, ↓k_non_q, ↓k_no_q, ↓k_sSet_q, ↓k_sAsg_q, ↓k_sAsg2_q, ↓k_sIf_q, ↓k_sDrop_q, ↓k_sOwn_q, ↓k_sFor_q, ↓k_gs_q, ↓k_dOp2_q, ↓k_dOp_q, ↓k_dCh4_q, ↓k_dCh3_q, ↓k_dCh2_q, ↓k_dCh1_q, ↓k_dUn_q, ↓k_dTest_q, ↓k_dAnd_q, ↓k_dOr_q, ↓k_dNot_q, ↓k_dAndV_q, ↓k_dOrV_q, ↓k_dIf_q, ↓k_dCons2_q, ↓k_dCons_q, ↓k_dTup_q, ↓k_dLst_q, ↓k_dCall_q, ↓k_dIsi_q, ↓k_dIsi2_q, ↓k_dSl3_q, ↓k_dSl2_q, ↓k_dSl_q, ↓k_dRev_q, ↓k_s3_q, ↓k_s3a_q, ↓k_s3b_q, ↓k_s3c_q, ↓e_dSl3, ↓sl3_r2, ↓sl3_rl, ↓k_dLc_q, ↓k_dB_q, ↓chB_b, ↓tsB_b, ↓dVar_s, ↓ownL_o, ↓ownD_o, ↓roL_l, ↓e_sAppend, ↓e_sRetOwn, ↓two_2, ↓three_3, ↓e_sPar, ↓e_sPar3, ↓asI_i, ↓e_dPart, ↓asS_l, ↓asS_t, ↓e_iSeq, ↓one_1, ↓e_iRng1D, ↓e_iRng2D, ↓wipeD_n, ↓wipeD_c, ↓frz_0, ↓frz_0v, ↓frz_s, ↓e_fnD, ↓e_sSeq, ↓e_sNext, ↓e_sBreak, ↓e_sCont, ↓e_sSet, ↓e_sAsg, ↓e_sAsg2, ↓e_sIf, ↓e_sRet, ↓e_sRetN, ↓e_sDrop, ↓e_sNever, ↓e_sOwn, ↓e_sFrz, ↓e_sFor, ↓e_gN, ↓e_gT_t, ↓e_gsNil_n, ↓e_gsCons_c, ↓e_dVar_0, ↓e_dVar_0t, ↓e_dC, ↓e_dOp, ↓e_dChain, ↓e_dUn, ↓e_dTest, ↓e_dAnd, ↓e_dOr, ↓e_dNot, ↓e_dAndV, ↓e_dOrV, ↓e_dIf, ↓e_dNil, ↓e_dCons, ↓e_dTup, ↓e_dLst, ↓e_dCall, ↓e_dB, ↓e_dIsi, ↓e_dIsi2, ↓e_dSl, ↓e_dRev, ↓e_dNo, ↓e_dYes, ↓e_dLc,
  ↓addD_ii, ↓addD_tt, ↓addD_ll, ↓subD_ii, ↓mulD_ii, ↓fdivD_ii, ↓modD_ii, ↓powD_10_9, ↓powD_10_6, ↓ltA_ii, ↓leA_ii, ↓gtA_ii, ↓geA_ii, ↓ltA_t2, ↓leA_t2, ↓gtA_t2, ↓geA_t2, ↓max2A_ii, ↓min2A_ii, ↓slh4, ↓slt4', ↓max2A_c, ↓min2A_c, ↓revD_l, ↓isNon_n, ↓isNon_t, ↓isNon_l, ↓notNon_n, ↓notNon_t, ↓isBD_bb, ↓negD_i, ↓notD_b, ↓absD_i, ↓intC_i, ↓intC_b, ↓lenD_l, ↓lenD_t, ↓listD_l, ↓listD_t, ↓tupleD_l, ↓tupleD_t, ↓allD_l, ↓anyD_l, ↓ixT0, ↓ixT1, ↓ixT2, ↓ixT3, ↓ixL0, ↓ixL1, ↓ixL2, ↓ixL3, ↓slD_l,
  eqD, neD,  sl0, sl1, sl2, sl3, sl4, sl5, sl6, sl7, sl8, sl9, sl10, sl11, sl12, slt0, slt1, slt2, slt3, slt4, slt5, slt6, slt7, slt8, slt9, slt10, slt11, slt12, lay_i, lay_b, lay_n, lay_t0, lay_l0, lay_t2, lay_t4, eqb_ii, eqb_bb, eqb_ss, eqb_nn, eqb_tt, eqb_ll, eqbs_nn, eqbs_cc, eqbs_nc, eqbs_cn, tag_n, tag_c, tagS_v, tagS_u, tagS_o, tagS_t, back_n, back_c, backS_vt, backS_tt, backS_ot, backS_ut, backS_u, backS_v, backS_l, backS_d, ownS_l, ownS_d, ownS_t, ownS_i, ownS_n, noLst_l, noLst_i, noLst_b, noLst_s, noLst_n, noLst_d, noLst_t, noLsts_n, noLsts_c, nlc_l, nlc_d, nlc_i, nlc_b, nlc_t, tyOk_n, tyOk_b, tyOk_i, tyOk_s, tyOk_t, tyOk_l, isi_n, isi_b, isi_i, isi_s, isi_t, isi_l,
  List.map_cons, List.map_nil, List.cons_append, List.nil_append, List.append_nil, List.append_assoc, List.length_cons, List.length_nil, List.getElem?_cons_zero, List.getElem?_cons_succ, List.set_cons_zero, List.set_cons_succ, List.replicate, Nat.reduceAdd, Nat.reduceSub, Nat.zero_add, Nat.reduceLeDiff, Nat.reduceEqDiff,
  if_true, if_false, true_and, and_true, and_self, Bool.not_true, Bool.not_false, Bool.false_eq_true, Bool.and_true, Bool.true_and, Bool.or_false, Bool.false_or, Bool.or_true, Bool.true_or, decide_eq_true_eq, decide_true, decide_false, beq_self_eq_true, beq_iff_eq, String.reduceEq, reduceIte, reduceCtorEq])
/-! ### the steps of rows, by planar -/
theorem sgn_sg (i : Int) : sgn i = Pl.sg i := by
  unfold sgn Pl.sg
  by_cases h1 : 0 < i
  · rw [if_pos h1, if_pos h1, if_neg (by omega)]
    omega
  · rw [if_neg h1, if_neg h1]
    by_cases h2 : i < 0
    · rw [if_pos h2, if_pos h2]
      omega
    · rw [if_neg h2, if_neg h2]
      omega
theorem al_pl {s : S4} {z : Sp2} : alS (sd s) z = Pl.Sk.al s z := by
  show alI _ _ _ _ _ = _
  unfold alI Pl.Sk.al
  rw [sgn_sg, sgn_sg]
theorem numden (t : Rat) : (t.num : Rat) = t * ((t.den : Int) : Rat) := by
  have h := Rat.num_divInt_den t
  rw [Rat.divInt_eq_div] at h
  have d0 : ((t.den : Int) : Rat) ≠ 0 := fun z => by
    have := Rat.intCast_eq_zero_iff.mp z
    have := t.den_pos
    omega
  have e : ((t.num : Rat) / ((t.den : Int) : Rat)) * ((t.den : Int) : Rat) = (t.num : Rat) := by grind
  rw [h] at e
  exact e.symm
theorem posden (t : Rat) : (0 : Rat) < ((t.den : Int) : Rat) := by
  have := t.den_pos
  have := Pl.c1 (i := 0) (j := (t.den : Int)) (by omega)
  simp at this
  grind
/-- a share of the way, as a fraction -/
theorem share {t : Rat} (h0 : 0 ≤ t) (h1 : t ≤ 1) : ∃ p q : Int, 0 < q ∧ 0 ≤ p ∧ p ≤ q ∧ t * (q : Rat) = (p : Rat) := by
  have d := posden t
  have e := numden t
  have m1 := Pl.mulm (Rat.le_of_lt d) h0
  have m2 := Pl.mulm (Rat.le_of_lt d) h1
  refine ⟨t.num, t.den, by have := t.den_pos; omega, ?_, ?_, e.symm⟩
  · apply Rat.intCast_le_intCast.mp
    simp
    grind
  · apply Rat.intCast_le_intCast.mp
    grind
theorem qpos {q : Int} (h : 0 < q) : (0 : Rat) < (q : Rat) := by
  have := Pl.c1 h
  simp at this
  grind
theorem share' {p q : Int} (h : 0 < q) (h0 : 0 ≤ p) (h1 : p ≤ q) : ∃ t : Rat, 0 ≤ t ∧ t ≤ 1 ∧ t * (q : Rat) = (p : Rat) := by
  have d := qpos h
  have p0 : (0 : Rat) ≤ (p : Rat) := by
    have := Rat.intCast_le_intCast.mpr h0
    simpa using this
  have p1 : (p : Rat) ≤ (q : Rat) := Rat.intCast_le_intCast.mpr h1
  have e : ((p : Rat) / (q : Rat)) * (q : Rat) = (p : Rat) := by grind
  refine ⟨(p : Rat) / (q : Rat), ?_, ?_, e⟩
  · apply Rat.not_lt.mp
    intro l
    have := Pl.mulp d l
    grind
  · apply Rat.not_lt.mp
    intro l
    have := Pl.mulp d l
    grind
theorem inX_R {x dx m p q : Int} {t : Rat} (q0 : 0 < q) (e : t * (q : Rat) = (p : Rat)) : inX x dx m p q ↔ Pl.InR m ((x : Rat) + (dx : Rat) * t) := by
  have d := qpos q0
  have c : ∀ i j : Int, i ≤ j ↔ (i : Rat) ≤ (j : Rat) := fun i j => Rat.intCast_le_intCast.symm
  have c' : ∀ i j : Int, i < j ↔ (i : Rat) < (j : Rat) := fun i j => Rat.intCast_lt_intCast.symm
  unfold inX Pl.InR
  rw [c, c']
  simp only [Rat.intCast_mul, Rat.intCast_sub, Rat.intCast_add]
  have e2 : 2 * (x : Rat) * q + 2 * dx * p = 2 * ((x : Rat) + dx * t) * q := by grind
  have two : ((2 : Int) : Rat) = 2 := rfl
  have one : ((1 : Int) : Rat) = 1 := rfl
  rw [two, one, e2]
  constructor
  · rintro ⟨h1, h2⟩
    constructor
    · apply Rat.not_lt.mp
      intro l
      have := Pl.mulp d l
      grind
    · apply Rat.not_le.mp
      intro l
      have := Pl.mulm (Rat.le_of_lt d) l
      grind
  · rintro ⟨h1, h2⟩
    have m1 := Pl.mulm (Rat.le_of_lt d) h1
    have m2 := Pl.mulp d h2
    constructor <;> grind
theorem go_pl {s : S4} {z : Sp2} : goB (sd s) z = true ↔ Pl.Sk.Go s z := by
  show goB (.tup [.int s.1, .int s.2.1, .int s.2.2.1, .int s.2.2.2]) z = true ↔ _
  rw [goB_iff]
  constructor
  · rintro ⟨p, q, q0, p0, p1, h1, h2⟩
    obtain ⟨t, t0, t1, e⟩ := share' q0 p0 p1
    refine ⟨t, t0, t1, ?_, ?_⟩
    · have := (inX_R q0 e).mp h1
      rw [Rat.intCast_sub] at this
      exact this
    · have := (inX_R q0 e).mp h2
      rw [Rat.intCast_sub] at this
      exact this
  · rintro ⟨t, t0, t1, h1, h2⟩
    obtain ⟨p, q, q0, p0, p1, e⟩ := share t0 t1
    refine ⟨p, q, q0, p0, p1, (inX_R q0 e).mpr ?_, (inX_R q0 e).mpr ?_⟩
    · rw [Rat.intCast_sub]
      exact h1
    · rw [Rat.intCast_sub]
      exact h2
/-- a place on a stroke, told by parts -/
theorem onS_R {a b c d' x v y w : Int} (v0 : 0 < v) (w0 : 0 < w) : OnS a b c d' x v y w ↔ ∃ t : Rat, 0 ≤ t ∧ t ≤ 1 ∧ (x : Rat) = ((a : Rat) + ((c : Rat) - a) * t) * v ∧ (y : Rat) = ((b : Rat) + ((d' : Rat) - b) * t) * w := by
  constructor
  · rintro ⟨p, q, q0, p0, p1, h1, h2⟩
    obtain ⟨t, t0, t1, e⟩ := share' q0 p0 p1
    have k1 := congrArg (fun i : Int => (i : Rat)) h1
    have k2 := congrArg (fun i : Int => (i : Rat)) h2
    simp only [Rat.intCast_mul, Rat.intCast_sub, Rat.intCast_add] at k1 k2
    have d := qpos q0
    rw [← e] at k1 k2
    have f1 : ((x : Rat) - ((a : Rat) + ((c : Rat) - a) * t) * v) * q = 0 := by grind
    have f2 : ((y : Rat) - ((b : Rat) + ((d' : Rat) - b) * t) * w) * q = 0 := by grind
    exact ⟨t, t0, t1, by grind, by grind⟩
  · rintro ⟨t, t0, t1, h1, h2⟩
    obtain ⟨p, q, q0, p0, p1, e⟩ := share t0 t1
    refine ⟨p, q, q0, p0, p1, Pl.eqi ?_, Pl.eqi ?_⟩
    · simp only [Rat.intCast_mul, Rat.intCast_sub, Rat.intCast_add]
      grind
    · simp only [Rat.intCast_mul, Rat.intCast_sub, Rat.intCast_add]
      grind
theorem nearI_R {x v : Int} (v0 : 0 < v) {X : Rat} (e : (x : Rat) = X * v) : Pl.InR (nearI x v) X := by
  have d := qpos v0
  obtain ⟨h1, h2⟩ := nearI_between (o := x) v0
  have h1 := Rat.intCast_le_intCast.mpr h1
  have h2 := Rat.intCast_lt_intCast.mpr h2
  simp only [Rat.intCast_mul, Rat.intCast_sub, Rat.intCast_add] at h1 h2
  have two : ((2 : Int) : Rat) = 2 := rfl
  have one : ((1 : Int) : Rat) = 1 := rfl
  rw [two, one] at h1 h2
  constructor
  · apply Rat.not_lt.mp
    intro l
    have := Pl.mulp d l
    grind
  · apply Rat.not_le.mp
    intro l
    have := Pl.mulm (Rat.le_of_lt d) l
    grind
theorem in100s {s : S4} (h : s.ok) : In100 s.1 ∧ In100 s.2.1 ∧ In100 s.2.2.1 ∧ In100 s.2.2.2 := ⟨in100 h.1.1 h.1.2, in100 h.2.1.1 h.2.1.2, in100 h.2.2.1.1 h.2.2.1.2, in100 h.2.2.2.1.1 h.2.2.2.1.2⟩
theorem par_self (s : S4) : Pl.Sk.par s s := Int.mul_comm _ _
theorem zip_strict {f : Sp2 → Int} : ∀ {L : List Sp2}, (L.Pairwise fun z w => f z < f w) → ∀ {a b : Sp2}, (a, b) ∈ L.zip L.tail → a ∈ L ∧ b ∈ L ∧ f a < f b ∧ ∀ z ∈ L, f a < f z → f z < f b → False
  | [], _, _, _, h => by cases h
  | [x], _, _, _, h => by simp at h
  | x :: y :: r, up, a, b, h => by
    have up' := up
    rw [List.pairwise_cons] at up
    rw [List.tail_cons, List.zip_cons_cons] at h
    rcases List.mem_cons.mp h with e | h
    · have e1 : a = x := congrArg Prod.fst e
      have e2 : b = y := congrArg Prod.snd e
      subst e1 e2
      refine ⟨List.mem_cons_self, List.mem_cons_of_mem _ List.mem_cons_self, up.1 _ List.mem_cons_self, fun z hz l1 l2 => ?_⟩
      rcases List.mem_cons.mp hz with rfl | hz
      · omega
      · rcases List.mem_cons.mp hz with rfl | hz
        · omega
        · have := (List.pairwise_cons.mp up.2).1 z hz
          omega
    · obtain ⟨h1, h2, h3, h4⟩ := zip_strict (L := y :: r) up.2 h
      refine ⟨List.mem_cons_of_mem _ h1, List.mem_cons_of_mem _ h2, h3, fun z hz l1 l2 => ?_⟩
      rcases List.mem_cons.mp hz with rfl | hz
      · have := up.1 a h1
        omega
      · exact h4 z hz l1 l2
/-- a step of a row -/
theorem step_pl {s : S4} {Z : List Sp2} (hs : s.ok) (nd : Z.Nodup) {a b : Sp2} (h : (a, b) ∈ stepsR (bentL (sd s) Z)) : Pl.StepR (· ∈ Z) s a b := by
  obtain ⟨h1, h2, h3, h4⟩ := zip_strict (bent_strict hs.sok nd) h
  obtain ⟨z1, g1⟩ := mem_bent.mp h1
  obtain ⟨z2, g2⟩ := mem_bent.mp h2
  refine ⟨z1, z2, go_pl.mp g1, go_pl.mp g2, by rw [← al_pl, ← al_pl]; exact h3, fun z hz gz l1 l2 => ?_⟩
  rw [← al_pl, ← al_pl] at l1 l2
  exact h4 z (mem_bent.mpr ⟨hz, go_pl.mpr gz⟩) l1 l2

/-! ### pieces meet in ends alone -/
def p4 (y : Sp2 × Sp2) : S4 := (y.1.1, y.1.2, y.2.1, y.2.2)
theorem onS_on {y : Sp2 × Sp2} {x v z w : Int} (v0 : 0 < v) (w0 : 0 < w) (h : OnS y.1.1 y.1.2 y.2.1 y.2.2 x v z w) : ∃ u A B : Rat, Pl.On y.1 y.2 u A B ∧ (x : Rat) = A * v ∧ (z : Rat) = B * w := by
  obtain ⟨t, t0, t1, h1, h2⟩ := (onS_R v0 w0).mp h
  exact ⟨t, _, _, ⟨t0, t1, rfl, rfl⟩, h1, h2⟩
theorem both_on {y y' : Sp2 × Sp2} {x v z w : Int} (v0 : 0 < v) (w0 : 0 < w) (h : Both y.1.1 y.1.2 y.2.1 y.2.2 y'.1.1 y'.1.2 y'.2.1 y'.2.2 x v z w) : ∃ u u' A B : Rat, Pl.On y.1 y.2 u A B ∧ Pl.On y'.1 y'.2 u' A B ∧ (x : Rat) = A * v ∧ (z : Rat) = B * w := by
  obtain ⟨u, A, B, o1, e1, e2⟩ := onS_on v0 w0 h.1
  obtain ⟨u', A', B', o2, e3, e4⟩ := onS_on v0 w0 h.2
  have d1 := qpos v0
  have d2 := qpos w0
  have a : (A - A') * v = 0 := by grind
  have b : (B - B') * w = 0 := by grind
  have a' : A = A' := by grind
  have b' : B = B' := by grind
  subst a' b'
  exact ⟨u, u', A, B, o1, o2, e1, e2⟩
/-! ### steps of rows that are laid again -/
/-! ### rows laid again and again: no two steps cross -/
structure LvS (Z : List Sp2) (A : S4 → Prop) : Prop where
  ok : ∀ s, A s → s.ok
  meet : ∀ s t, A s → A t → Pl.MeetS (· ∈ Z) s t
def nextL (Z : List Sp2) (A : S4 → Prop) : S4 → Prop := fun u => ∃ s, A s ∧ ∃ t ∈ stepsR (bentL (sd s) Z), u = p4 t
theorem p4_ok {t : Sp2 × Sp2} (h1 : SpB t.1) (h2 : SpB t.2) (ne : t.1 ≠ t.2) : (p4 t).ok := ⟨h1.1, h1.2, h2.1, h2.2, fun z => ne (Prod.ext z.1.symm z.2.symm)⟩
theorem LvS.next {Z : List Sp2} {A : S4 → Prop} (nd : Z.Nodup) (zb : ∀ z ∈ Z, SpB z) (h : LvS Z A) : LvS Z (nextL Z A) where
  ok := by
    rintro u ⟨s, hs, t, ht, rfl⟩
    have S := step_pl (h.ok s hs) nd ht
    exact p4_ok (zb _ S.za) (zb _ S.zb) S.ne
  meet := by
    rintro u u' ⟨s, hs, t, ht, rfl⟩ ⟨s', hs', t', ht', rfl⟩
    intro p q p0 p1 q0 q1 ex ey np z i j
    have S := step_pl (h.ok s hs) nd ht
    have S' := step_pl (h.ok s' hs') nd ht'
    rcases Pl.planar S S' (h.meet s s' hs hs') (p := p) (q := q) (X := Pl.Sk.x (p4 t) p) (Y := Pl.Sk.y (p4 t) p) ⟨p0, p1, rfl, rfl⟩ ⟨q0, q1, ex, ey⟩ with ⟨e1, e2⟩ | ⟨e1, e2⟩ | ⟨e, h1, h2, h3, h4⟩
    · exfalso
      apply np
      have : t = t' := Prod.ext e1 e2
      rw [this]
      exact par_self _
    · exfalso
      apply np
      have : t = (t'.2, t'.1) := Prod.ext e1 e2
      rw [this]
      unfold Pl.Sk.par p4
      dsimp only
      grind
    · rw [h3] at i
      rw [h4] at j
      have e1 : z.1 = e.1 := i.uniq (by unfold Pl.InR; grind)
      have e2 : z.2 = e.2 := j.uniq (by unfold Pl.InR; grind)
      have : z = e := Prod.ext e1 e2
      rw [this]
      rcases h1 with rfl | rfl
      · exact S.za
      · exact S.zb
/-- two steps of such rows -/
theorem LvS.on {Z : List Sp2} {A : S4 → Prop} (nd : Z.Nodup) (h : LvS Z A) {t t' : Sp2 × Sp2} (ht : nextL Z A (p4 t)) (ht' : nextL Z A (p4 t')) (ne : pcS t ≠ pcS t') {u v X Y : Rat} (o1 : Pl.On t.1 t.2 u X Y) (o2 : Pl.On t'.1 t'.2 v X Y) : ∃ e : Sp2, (e = t.1 ∨ e = t.2) ∧ (e = t'.1 ∨ e = t'.2) ∧ X = e.1 ∧ Y = e.2 := by
  obtain ⟨s, hs, r, hr, e⟩ := ht
  obtain ⟨s', hs', r', hr', e'⟩ := ht'
  have p4i : ∀ {a b : Sp2 × Sp2}, p4 a = p4 b → a = b := fun {a b} h => by
    unfold p4 at h
    simp only [Prod.mk.injEq] at h
    exact Prod.ext (Prod.ext h.1 h.2.1) (Prod.ext h.2.2.1 h.2.2.2)
  obtain rfl := p4i e
  obtain rfl := p4i e'
  rcases Pl.planar (step_pl (h.ok s hs) nd hr) (step_pl (h.ok s' hs') nd hr') (h.meet s s' hs hs') o1 o2 with ⟨e1, e2⟩ | ⟨e1, e2⟩ | h
  · exact absurd (congrArg pcS (Prod.ext e1 e2)) ne
  · refine absurd ?_ ne
    rw [← pcS_swap t']
    exact congrArg pcS (Prod.ext e1 e2)
  · exact h

/-! ### the rows of the n-th laying -/
/-! ### pieces that don't cross -/
structure PlY (Z : List Sp2) (Y : List (Sp2 × Sp2)) : Prop where
  nd : Y.Nodup
  zn : Z.Nodup
  zb : ∀ z ∈ Z, SpB z
  ends : ∀ y ∈ Y, y.1 ∈ Z ∧ y.2 ∈ Z ∧ y.1 ≠ y.2 ∧ pcS y = y
  cov : ∀ z ∈ Z, ∃ y ∈ Y, z = y.1 ∨ z = y.2
  on : ∀ y ∈ Y, ∀ w ∈ Y, y ≠ w → ∀ u v A B : Rat, Pl.On y.1 y.2 u A B → Pl.On w.1 w.2 v A B → ∃ e : Sp2, (e = y.1 ∨ e = y.2) ∧ (e = w.1 ∨ e = w.2) ∧ A = e.1 ∧ B = e.2
theorem PlY.p4 {Z : List Sp2} {Y : List (Sp2 × Sp2)} (h : PlY Z Y) {y : Sp2 × Sp2} (hy : y ∈ Y) : (p4 y).ok := by
  obtain ⟨z1, z2, ne, _⟩ := h.ends y hy
  exact p4_ok (h.zb _ z1) (h.zb _ z2) ne
/-- where two pieces meet -/
theorem PlY.meet {Z : List Sp2} {Y : List (Sp2 × Sp2)} (h : PlY Z Y) {y w : Sp2 × Sp2} (hy : y ∈ Y) (hw : w ∈ Y) (ne : y ≠ w) {z : Sp2} (hm : meetSp (sd (DV.p4 y)) (sd (DV.p4 w)) = some z) : z ∈ Z := by
  have o1 := h.p4 hy
  have o2 := h.p4 hw
  obtain ⟨a1, a2, a3, a4⟩ := in100s o1
  obtain ⟨b1, b2, b3, b4⟩ := in100s o2
  have mf := meet_f a1 a2 a3 a4 b1 b2 b3 b4 o1.2.2.2.2 o2.2.2.2.2
  have on := fun x v z u v0 w0 (h : Both y.1.1 y.1.2 y.2.1 y.2.2 w.1.1 w.1.2 w.2.1 w.2.2 x v z u) => both_on (y := y) (y' := w) v0 w0 h
  have hm : placeSp (meetD y.1.1 y.1.2 y.2.1 y.2.2 w.1.1 w.1.2 w.2.1 w.2.2) = some z := hm
  unfold DV.p4 at mf
  dsimp only at mf
  generalize meetD y.1.1 y.1.2 y.2.1 y.2.2 w.1.1 w.1.2 w.2.1 w.2.2 = M at *
  cases mf with
  | non _ => cases hm
  | at_ x v b u v0 u0 _ _ c1 c2 o _ =>
    obtain ⟨k, k', A, B, p1, p2, e1, e2⟩ := on x v b u v0 u0 o
    obtain ⟨e, h1, h2, rfl, rfl⟩ := h.on y hy w hw ne _ _ _ _ p1 p2
    simp only [placeSp, if_true, Option.some.injEq] at hm
    have i1 := nearI_R v0 e1
    have i2 := nearI_R u0 e2
    have f1 : nearI x v = e.1 := i1.uniq (by unfold Pl.InR; grind)
    have f2 : nearI b u = e.2 := i2.uniq (by unfold Pl.InR; grind)
    have : z = e := by rw [← hm, f1, f2]
    rw [this]
    obtain ⟨z1, z2, _⟩ := h.ends y hy
    rcases h1 with rfl | rfl
    · exact z1
    · exact z2
  | along p q r s lt c1 c2 _ =>
    simp only [placeSp] at hm
    cases hm
/-! ### spots, layings, rest, with sets of any size -/
/-! ### pieces told as a heap of their own -/
theorem range_pre {n : Nat} (h : n ≤ 32) : (List.range n).Sublist (List.range 32) := by
  have : List.range n = (List.range 32).take n := by rw [List.take_range, Nat.min_eq_left h]
  rw [this]
  exact List.take_sublist _ _
/-! ### the pieces of a laying; those of its pieces -/
def PS (Z : List Sp2) (d : D) (p : Sp2 × Sp2) : Prop := ∃ t ∈ stepsR (bentL d Z), p = pcS t
/-! ### the law's own bending, at any list of spots -/
/-! ### the squares in a stretch -/
/-! ### rows as lists or as tuples -/
/-! ### heaps of at most ten strokes -/
/-! ### a dict from pieces to numbers -/
/-! ### what goes along pieces -/
def ltP (u w : Sp2) : Prop := u.1 < w.1 ∨ (u.1 = w.1 ∧ u.2 < w.2)
instance (u w : Sp2) : Decidable (ltP u w) := by unfold ltP; infer_instance
/-! ### places, and steps beside them -/
/-! ### a flow: its pieces, what goes along each -/
abbrev Fl := List ((Sp2 × Sp2) × Int)
/-! ### a dict from spots to numbers -/
/-! ### what goes along pieces -/

/-! ### what comes and goes at each spot -/
/-! ### the least spot -/
def lower (a y : Sp2) : Sp2 := if ltP y a then y else a
def least (z : Sp2) (r : List Sp2) : Sp2 := r.foldl lower z
/-! ### rings, closed -/
def cyc (F : List Sp2) : List (Sp2 × Sp2) := (List.range F.length).map fun k => (F.getD ((k + F.length - 1) % F.length) (0, 0), F.getD k (0, 0))
def ringL (F : List Sp2) : List (Sp2 × Sp2) := (cyc F).filter fun t => decide (t.1 ≠ t.2)
theorem cyc_mem {F : List Sp2} (h : F ≠ []) {t : Sp2 × Sp2} (ht : t ∈ cyc F) : t.1 ∈ F ∧ t.2 ∈ F := by
  unfold cyc at ht
  obtain ⟨k, hk, rfl⟩ := List.mem_map.mp ht
  have hk := List.mem_range.mp hk
  have n0 := List.length_pos_iff.mpr h
  have get : ∀ j, j < F.length → F.getD j (0, 0) ∈ F := fun j hj => by
    rw [List.getD_eq_getElem?_getD, List.getElem?_eq_getElem hj]
    exact List.getElem_mem _
  exact ⟨get _ (Nat.mod_lt _ n0), get _ hk⟩
/-- at each spot as many come as go -/
def comes (L : List (Sp2 × Sp2)) (z : Sp2) : Int := (L.map fun t => (if t.2 = z then 1 else 0) - (if t.1 = z then (1 : Int) else 0)).sum
theorem comes_filter (L : List (Sp2 × Sp2)) (z : Sp2) : comes (L.filter fun t => decide (t.1 ≠ t.2)) z = comes L z := by
  unfold comes
  induction L with
  | nil => rfl
  | cons t L ih =>
    by_cases c : t.1 = t.2
    · rw [List.filter_cons_of_neg (by simp [c]), ih, List.map_cons, List.sum_cons, c]
      omega
    · rw [List.filter_cons_of_pos (by simp [c]), List.map_cons, List.sum_cons, List.map_cons, List.sum_cons, ih]
theorem comes_ring {F : List Sp2} (h : F.length ≤ 4) (z : Sp2) : comes (ringL F) z = 0 := by
  unfold ringL
  rw [comes_filter]
  match F, h with
  | [], _ => rfl
  | [a], _ =>
    show comes [(a, a)] z = 0
    unfold comes
    simp only [List.map_cons, List.map_nil, List.sum_cons, List.sum_nil]
    omega
  | [a, b], _ =>
    rw [show cyc [a, b] = [(b, a), (a, b)] by simp [cyc, List.range_succ]]
    unfold comes
    simp only [List.map_cons, List.map_nil, List.sum_cons, List.sum_nil]
    omega
  | [a, b, c], _ =>
    rw [show cyc [a, b, c] = [(c, a), (a, b), (b, c)] by simp [cyc, List.range_succ]]
    unfold comes
    simp only [List.map_cons, List.map_nil, List.sum_cons, List.sum_nil]
    omega
  | [a, b, c, d], _ =>
    rw [show cyc [a, b, c, d] = [(d, a), (a, b), (b, c), (c, d)] by simp [cyc, List.range_succ]]
    unfold comes
    simp only [List.map_cons, List.map_nil, List.sum_cons, List.sum_nil]
    omega
  | _ :: _ :: _ :: _ :: _ :: _, h => simp at h
/-- papers of any kind -/
inductive AnyP : D → Prop where
  | c (c : Cs) : LayN 1 (csD c) → (∀ n b, c = .en n b → b = 0 ∨ b = 1) → AnyP (csD c)
  | n (L : List Str) : (∀ x ∈ L, PyData.strOk x = true) → AnyP (.tup [.str "cold", .tup (L.map D.str)])
def StrL (ds : List D) : Prop := ∀ d ∈ ds, ∃ x, d = .str x ∧ PyData.strOk x = true
theorem StrL.is : ∀ {ds : List D}, StrL ds → ∃ L : List Str, ds = L.map D.str ∧ ∀ x ∈ L, PyData.strOk x = true
  | [], _ => ⟨[], rfl, fun _ z => nomatch z⟩
  | d :: ds, h => by
    obtain ⟨L, e, hL⟩ := StrL.is (ds := ds) fun y hy => h y (List.mem_cons_of_mem _ hy)
    obtain ⟨x, ex, hx⟩ := h d List.mem_cons_self
    refine ⟨x :: L, by rw [List.map_cons, ← e, ex], fun y hy => ?_⟩
    rcases List.mem_cons.mp hy with rfl | hy
    · exact hx
    · exact hL y hy
theorem StrL.cut {a : List D} (h : StrL a) (l r : Option Int) : StrL (cutD a l r) := fun d hd => h d (List.mem_of_mem_drop (List.mem_of_mem_take hd))
/-! ### told papers: spots and papers of any kind -/
def TOk (t : Sp2 × D) : Prop := SpB t.1 ∧ AnyP t.2
def coldB : D → Bool
  | .tup (.str x :: _) => decide (x = "cold")
  | _ => false
theorem cold_c {c : Cs} : coldB (csD c) = false := by
  cases c with
  | en n b => exact decide_eq_false ne_ec
  | cr n b => exact decide_eq_false ne_cc
theorem cold_n {L : List D} : coldB (.tup [.str "cold", .tup L]) = true := by
  exact decide_eq_true (rfl : Str.ofString "cold" = Str.ofString "cold")
/-- both judges' word, once for all -/
theorem both2_ok {P : List (Str × D)} (hP : HeapP P) {z : Sp2} (hz : SpB z) {d : D} (hd : AnyP d) : ∃ b : Bool, (b = true → (coldB d = true ↔ ∀ c, ¬RowOf P (z, c))) ∧ (∀ Q : D → Prop, Q (.bl b) → c_law_paper_right [.dic (hpD P), tp z, d] Q) ∧ ∀ Q : D → Prop, Q (.bl b) → c_judge_heat [.dic (hpD P), tp z, d] Q := by
  have two : ∀ {a b : Bool} {X : Prop}, (a = true ↔ X) → (b = true ↔ X) → a = b := fun h g => Bool.eq_iff_iff.mpr (h.trans g.symm)
  have one : ∀ X : Prop, ∃ b : Bool, (b = true ↔ X) := fun X => by
    by_cases h : X
    · exact ⟨true, by simp [h]⟩
    · exact ⟨false, by simp [h]⟩
  cases hd with
  | c c hc hb =>
    obtain ⟨b, e⟩ := one (RowOf P (z, c))
    refine ⟨b, fun h => ⟨fun h' => ?_, fun h' => (h' c (e.mp h)).elim⟩, fun Q k => law_right_c hP hc fun b' e' => ?_, fun Q k => judge_c hP hc hb fun b' e' => ?_⟩
    · rw [cold_c] at h'; cases h'
    · rw [two e' e]; exact k
    · rw [two e' e]; exact k
  | n L hL =>
    by_cases hs : ∃ S, Ris P S
    · obtain ⟨S, hS⟩ := hs
      obtain ⟨b, e⟩ := one (L = goersS S z ∧ ∀ c, ¬RowOf P (z, c))
      refine ⟨b, fun h => ⟨fun _ => (e.mp h).2, fun _ => cold_n⟩, fun Q k => law_right_n hP hz hL fun S' hS' b' e' => ?_, fun Q k => judge_n hP hz hL fun S' hS' b' e' => ?_⟩
      · rw [hS'.uniq hP hS] at e'
        rw [two e' e]; exact k
      · rw [hS'.uniq hP hS] at e'
        rw [two e' e]; exact k
    · exact ⟨false, fun h => (nomatch h), fun Q k => law_right_n hP hz hL fun S' hS' b' e' => (hs ⟨S', hS'⟩).elim, fun Q k => judge_n hP hz hL fun S' hS' b' e' => (hs ⟨S', hS'⟩).elim⟩
/-- what both judges say, as a function -/
structure Says (P : List (Str × D)) (rB : Sp2 × D → Bool) : Prop where
  hot : ∀ t, TOk t → rB t = true → (coldB t.2 = true ↔ ∀ c, ¬RowOf P (t.1, c))
  law : ∀ t, TOk t → ∀ Q : D → Prop, Q (.bl (rB t)) → c_law_paper_right [.dic (hpD P), tp t.1, t.2] Q
  jud : ∀ t, TOk t → ∀ Q : D → Prop, Q (.bl (rB t)) → c_judge_heat [.dic (hpD P), tp t.1, t.2] Q
theorem says {P : List (Str × D)} (hP : HeapP P) : ∃ rB, Says P rB := by
  have h : ∀ t : Sp2 × D, ∃ b : Bool, TOk t → (b = true → (coldB t.2 = true ↔ ∀ c, ¬RowOf P (t.1, c))) ∧ (∀ Q : D → Prop, Q (.bl b) → c_law_paper_right [.dic (hpD P), tp t.1, t.2] Q) ∧ ∀ Q : D → Prop, Q (.bl b) → c_judge_heat [.dic (hpD P), tp t.1, t.2] Q := fun t => by
    by_cases ht : TOk t
    · obtain ⟨b, hb⟩ := both2_ok hP ht.1 ht.2
      exact ⟨b, fun _ => hb⟩
    · exact ⟨false, fun z => absurd z ht⟩
  obtain ⟨f, hf⟩ := Classical.axiomOfChoice h
  exact ⟨f, fun t ht => (hf t ht).1, fun t ht => (hf t ht).2.1, fun t ht => (hf t ht).2.2⟩
/-! ### rings with weights -/
def nmE (k a : Nat) : Str := (["a", "bb", "ccc"] : List Str).getD k "" ++ (["w", "x", "y", "z"] : List Str).getD a ""
theorem nmE_inj12 : ∀ i, i < 12 → ∀ j, j < 12 → nmE (i / 4) (i % 4) = nmE (j / 4) (j % 4) → i = j := by decide +kernel
theorem nmE_inj (k : Nat) (hk : k < 3) (a : Nat) (ha : a < 4) (k' : Nat) (hk' : k' < 3) (a' : Nat) (ha' : a' < 4) (h : nmE k a = nmE k' a') : k = k' ∧ a = a' := by
  have := nmE_inj12 (4 * k + a) (by omega) (4 * k' + a') (by omega) (by
    rw [show (4 * k + a) / 4 = k by omega, show (4 * k + a) % 4 = a by omega, show (4 * k' + a') / 4 = k' by omega, show (4 * k' + a') % 4 = a' by omega]
    exact h)
  omega
theorem nmE_ok : ∀ k, k < 3 → ∀ a, a < 4 → PyData.strOk (nmE k a) = true := by decide +kernel
abbrev Ev := List (Str × (Sp2 × Sp2) × Int)
/-- how much more comes than goes, by weights -/
def pours (E : Ev) (z : Sp2) : Int := (E.map fun e => e.2.2 * ((if e.2.1.2 = z then 1 else 0) - (if e.2.1.1 = z then (1 : Int) else 0))).sum
structure EvOk (E : Ev) : Prop where
  nd : (E.map (·.1)).Nodup
  ok : ∀ e ∈ E, PyData.strOk e.1 = true
  sp : ∀ e ∈ E, SpB e.2.1.1 ∧ SpB e.2.1.2 ∧ e.2.1.1 ≠ e.2.1.2
  wt : ∀ e ∈ E, -3 ≤ e.2.2 ∧ e.2.2 ≤ 3
  bal : ∀ z, pours E z = 0
theorem pours_app {A B : Ev} {z : Sp2} : pours (A ++ B) z = pours A z + pours B z := by
  unfold pours
  rw [List.map_append, List.sum_append]
/-- a ring's entries -/
def rowE (k : Nat) (w : Int) : List (Sp2 × Sp2) → Nat → Ev
  | [], _ => []
  | t :: r, a => (nmE k a, t, w) :: rowE k w r (a + 1)
theorem rowE_app {k : Nat} {w : Int} : ∀ (r : List (Sp2 × Sp2)) (a : Nat) (e : Str × (Sp2 × Sp2) × Int), e ∈ rowE k w r a → (∃ b, a ≤ b ∧ b < a + r.length ∧ e.1 = nmE k b) ∧ e.2.1 ∈ r ∧ e.2.2 = w
  | [], _, _, h => nomatch h
  | t :: r, a, e, h => by
    rcases List.mem_cons.mp h with rfl | h
    · exact ⟨⟨a, Nat.le_refl _, by simp, rfl⟩, List.mem_cons_self, rfl⟩
    · obtain ⟨⟨b, h1, h2, h3⟩, h4, h5⟩ := rowE_app r (a + 1) e h
      exact ⟨⟨b, by omega, by rw [List.length_cons]; omega, h3⟩, List.mem_cons_of_mem _ h4, h5⟩
theorem rowE_len {k : Nat} {w : Int} : ∀ (r : List (Sp2 × Sp2)) (a : Nat), (rowE k w r a).length = r.length
  | [], _ => rfl
  | _ :: r, a => by rw [rowE, List.length_cons, List.length_cons, rowE_len r]
theorem rowE_nd {k : Nat} (hk : k < 3) {w : Int} : ∀ (r : List (Sp2 × Sp2)) (a : Nat), a + r.length ≤ 4 → ((rowE k w r a).map (·.1)).Nodup
  | [], _, _ => List.nodup_nil
  | t :: r, a, h => by
    rw [List.length_cons] at h
    rw [rowE, List.map_cons, List.nodup_cons]
    refine ⟨fun z => ?_, rowE_nd hk r (a + 1) (by omega)⟩
    obtain ⟨e, he, e1⟩ := List.mem_map.mp z
    obtain ⟨⟨b, h1, h2, h3⟩, _⟩ := rowE_app r (a + 1) e he
    have e1 : e.1 = nmE k a := e1
    rw [h3] at e1
    have := (nmE_inj k hk b (by omega) k hk a (by omega) e1).2
    omega
theorem pours_row {k : Nat} {w : Int} {z : Sp2} : ∀ (r : List (Sp2 × Sp2)) (a : Nat), pours (rowE k w r a) z = w * comes r z
  | [], _ => by simp [rowE, pours, comes]
  | t :: r, a => by
    have ih := pours_row (k := k) (w := w) (z := z) r (a + 1)
    rw [rowE]
    unfold pours comes at *
    rw [List.map_cons, List.sum_cons, List.map_cons, List.sum_cons, ih, Int.mul_add]
structure EvR (k : Nat) (E : Ev) : Prop where
  ok : EvOk E
  nm : ∀ e ∈ E, ∃ j a, j < k ∧ a < 4 ∧ e.1 = nmE j a
  few : E.length ≤ 4 * k
theorem EvR.more {k : Nat} {E : Ev} (h : EvR k E) (hk : k < 3) {F : List Sp2} (hF : F ≠ []) (hl : F.length ≤ 4) (hb : ∀ z ∈ F, SpB z) {w : Int} (w0 : -3 ≤ w) (w1 : w ≤ 3) : EvR (k + 1) (E ++ rowE k w (ringL F) 0) := by
  have lR : (ringL F).length ≤ 4 := by
    have : (ringL F).length ≤ (cyc F).length := List.length_filter_le _ _
    unfold cyc at this
    rw [List.length_map, List.length_range] at this
    omega
  have rm : ∀ e ∈ rowE k w (ringL F) 0, (∃ b, b < 4 ∧ e.1 = nmE k b) ∧ e.2.1 ∈ ringL F ∧ e.2.2 = w := fun e he => by
    obtain ⟨⟨b, h1, h2, h3⟩, h4, h5⟩ := rowE_app _ _ e he
    exact ⟨⟨b, by omega, h3⟩, h4, h5⟩
  refine ⟨⟨?_, fun e he => ?_, fun e he => ?_, fun e he => ?_, fun z => ?_⟩, fun e he => ?_, ?_⟩
  · rw [List.map_append]
    refine List.nodup_append.mpr ⟨h.ok.nd, rowE_nd hk _ _ (by omega), fun a ha b hb e => ?_⟩
    obtain ⟨x, hx, rfl⟩ := List.mem_map.mp ha
    obtain ⟨y, hy, rfl⟩ := List.mem_map.mp hb
    obtain ⟨j, c, h1, h2, h3⟩ := h.nm x hx
    obtain ⟨⟨b, h4, h5⟩, _⟩ := rm y hy
    rw [h3, h5] at e
    have := (nmE_inj j (by omega) c h2 k hk b h4 e).1
    omega
  · rcases List.mem_append.mp he with he | he
    · exact h.ok.ok e he
    · obtain ⟨⟨b, h4, h5⟩, _⟩ := rm e he
      rw [h5]
      exact nmE_ok k hk b h4
  · rcases List.mem_append.mp he with he | he
    · exact h.ok.sp e he
    · obtain ⟨_, h4, _⟩ := rm e he
      obtain ⟨h5, h6⟩ := List.mem_filter.mp h4
      obtain ⟨h7, h8⟩ := cyc_mem hF h5
      exact ⟨hb _ h7, hb _ h8, of_decide_eq_true h6⟩
  · rcases List.mem_append.mp he with he | he
    · exact h.ok.wt e he
    · obtain ⟨_, _, h4⟩ := rm e he
      rw [h4]
      exact ⟨w0, w1⟩
  · rw [pours_app, pours_row, comes_ring hl, h.ok.bal]
    omega
  · rcases List.mem_append.mp he with he | he
    · obtain ⟨j, c, h1, h2, h3⟩ := h.nm e he
      exact ⟨j, c, by omega, h2, h3⟩
    · obtain ⟨⟨b, h4, h5⟩, _⟩ := rm e he
      exact ⟨k, b, by omega, h4, h5⟩
  · rw [List.length_append, rowE_len]
    have := h.few
    omega
/-! ### strokes alone, weights alone -/
/-! ### places drawn -/
/-! ### the level of a place -/
/-! ### near a stroke: a convex set; a row inside it is passed as its stroke is -/
/-! the side of a step, in fractions -/
/-! ### the law's own: whether a stroke comes so near, for all numbers -/
/-! whether the place is far from all strokes -/
/-! ### sums over flows -/
def fs (A : Fl) (φ : Sp2 × Sp2 → Int) : Int := (A.map fun a => a.2 * φ a.1).sum
/-! the spots that lose what they take -/
/-! rows and their strokes -/
/-! ### k11: what makes a square hot -/
theorem causesO_at {P : List (Str × D)} {Q : D → Prop} (hP : HeapP P) (h : ∀ R, Cau P R → Q (.lst (R.map rowD))) : c_causesO [.dic (hpD P)] Q := by
  unfold c_causesO
  walk_at "dv"
  rw [sortedC_d]
  refine ⟨keys_srt, fun ys hys => ?_⟩
  obtain ⟨S, hS, rfl⟩ := ris_of hP hys
  walk_at "dv"
  have hl : S.length ≤ 32 := by rw [hS.perm.length_eq]; exact hP.few
  refine causes_loop (pre0 := []) hP S [] [] _ _ _ _ _ (fun p hp => hS.perm.mem_iff.mp hp) (by simpa using hl) (by have := rowsP_len hl; simp only [List.length_nil]; omega) fun s3 s4 s5 s6 s7 => ?_
  walk_at "dv"
  rw [sortedC_l]
  refine ⟨srt_rows, fun ys hy => ?_⟩
  obtain ⟨R, hR, rfl⟩ := cau_of hS (List.Perm.refl _) hy
  walk_at "dv"
  exact h R hR
theorem hotO_at {P : List (Str × D)} {Q : D → Prop} (hP : HeapP P) (h : ∀ R Z, Cau P R → Hot R Z → Q (.lst (Z.map tp))) : c_hotO [.dic (hpD P)] Q := by
  unfold c_hotO
  walk_at "dv"
  unfold dSortN
  walk_at "dv"
  refine causesO_at hP fun R hR => ?_
  walk_at "dv"
  have hl := hR.len hP
  have ha : ∀ k, k ∈ (R.map fun r => tp r.1).reverse ++ [] ↔ ∃ s ∈ R.map (·.1), k = tp s := fun k => by
    rw [List.append_nil, List.mem_reverse, List.mem_map]
    constructor
    · rintro ⟨r, hr, rfl⟩
      exact ⟨r.1, List.mem_map.mpr ⟨r, hr, rfl⟩, rfl⟩
    · rintro ⟨s, hs, rfl⟩
      obtain ⟨r, hr, rfl⟩ := List.mem_map.mp hs
      exact ⟨r, hr, rfl⟩
  refine scN_rows rfl R [] (by rw [List.length_nil]; omega) ⟨?_, fun ys hy => ?_⟩
  · have := srt_tps (L := ((R.map (·.1)).reverse))
    rw [List.map_reverse, List.map_map] at this
    rw [List.append_nil]
    exact this
  · obtain ⟨Z, nd, mem, st⟩ := setToN_spots ha hy
    obtain ⟨Y, hY, rfl⟩ := hot_of nd mem st
    walk_at "dv"
    exact h R Y hR hY
theorem whyO_at {P : List (Str × D)} {Q : D → Prop} (hP : HeapP P) {s : Sp2} (h : ∀ R, Cau P R → Q (.lst (whyR R s))) : c_whyO [.dic (hpD P), tp s] Q := by
  unfold c_whyO
  walk_at "dv"
  refine causesO_at hP fun R hR => ?_
  walk_at "dv"
  have hl := hR.len hP
  refine lcD_fm rowD (fun r => if r.1 = s then some (csD r.2) else none) R [] _ (fun r hr Q1 Q2 k1 k2 => ?_) (by rw [sizeLine_eq, List.length_nil]; omega) ?_
  · show gT 2 (gsCons (gN 2) (gsCons (gN 3) gsNil)) (.tup [tp r.1, csD r.2]) _ _
    walk_at "dv"
    refine ⟨lay_tp _, lay_tp _, ?_⟩
    rw [eqb_tp]
    by_cases e : r.1 = s
    · rw [decide_eq_true e]
      exact k1 _ (if_pos e)
    · rw [decide_eq_false e]
      exact k2 (if_neg e)
  · walk_at "dv"
    exact h R hR
/-! names -/
def ch8 (k : Nat) : Nat := (Str.ofString "abcdefgh").cps.getD (k % 8) 0
def nm8 (k : Nat) : Str := repS ⟨#[ch8 k]⟩ (1 + ((k / 8 : Nat) : Int))
theorem nm8_ok : ∀ k : Nat, k < 32 → PyData.strOk (nm8 k) = true ∧ atI (Str.ofString "abcdefgh").cps.toList ((k % 8 : Nat) : Int) = some (ch8 k) ∧ (⟨#[ch8 k]⟩ : Str).length ≤ 1000 := by decide +kernel
theorem nm8_nd : ((List.range 32).map nm8).Nodup := by decide +kernel
theorem len8 : (Str.ofString "abcdefgh").length ≤ sizeLine := by decide +kernel

def P8 (L : List D) : List (Str × D) := (List.range L.length).map fun k => (nm8 k, L.getD k .non)
theorem P8_heap {L : List D} (hl : L.length ≤ 32) (hL : ∀ d ∈ L, StrokeOk d) : HeapP (P8 L) where
  nd := by
    unfold P8
    rw [List.map_map]
    exact ((range_pre hl).map nm8).nodup nm8_nd
  st := fun p hp => by
    obtain ⟨k, hk, rfl⟩ := List.mem_map.mp hp
    have hk := List.mem_range.mp hk
    show StrokeOk (L.getD k .non)
    rw [List.getD_eq_getElem?_getD, List.getElem?_eq_getElem hk, Option.getD_some]
    exact hL _ (List.getElem_mem hk)
  few := by unfold P8; rw [List.length_map, List.length_range]; exact hl
  ok := fun p hp => by
    obtain ⟨k, hk, rfl⟩ := List.mem_map.mp hp
    have hk := List.mem_range.mp hk
    exact (nm8_ok k (by omega)).1
theorem dict8 {L : List D} (hl : L.length ≤ 32) {Q : D → Prop} (q : Q (.dic (hpD (P8 L)))) : dictC [.lst ((List.range L.length).map fun k => D.tup [.str (nm8 k), L.getD k .non])] Q := by
  refine rk_dict (kf := nm8) (vf := fun k => L.getD k .non) (((range_pre hl).map nm8).nodup nm8_nd) ?_
  unfold hpD P8 at q
  rw [List.map_map] at q
  exact q
def bodyHp : DE := (dTup (dCons (dOp mulSD (dOp ixSD (dC (.str "abcdefgh")) (dOp modD (dVar 12) (dC (.int 8)))) (dOp addD (dC (.int 1)) (dOp fdivD (dVar 12) (dC (.int 8))))) (dCons (dOp ixD (dVar 3) (dVar 12)) dNil)))
theorem comp8 {L : List D} (hl : L.length ≤ 32) {s0 s1 s2 s4 s5 s6 s7 s8 s9 s10 s11 s12 s13 s14 : Slot} {Q : D → Prop} (q : Q (.lst ((List.range L.length).map fun k => D.tup [.str (nm8 k), L.getD k .non]))) :
    lcD (gN 12) dYes bodyHp [s0, s1, s2, .v (.lst L), s4, s5, s6, s7, s8, s9, s10, s11, s12, s13, s14] (rngD 0 ((L.length : Int)).toNat) [] Q := by
  have er : rngD 0 ((L.length : Int)).toNat = (List.range L.length).map fun k : Nat => D.int (0 + (k : Int)) := by
    unfold rngD
    rw [Int.toNat_natCast]
  rw [er]
  refine lcD_mp (fun k : Nat => D.int (0 + (k : Int))) (fun k => D.tup [.str (nm8 k), L.getD k .non]) (List.range L.length) _ (fun k hk Q1 q1 => ?_) (by rw [List.length_range, sizeLine_eq]; omega) q
  have hk := List.mem_range.mp hk
  obtain ⟨p1, p2, p3⟩ := nm8_ok k (by omega)
  rw [List.getD_eq_getElem?_getD, List.getElem?_eq_getElem hk, Option.getD_some] at q1
  unfold bodyHp
  walk_at "dv"
  rw [Int.zero_add]
  have em : ((k : Int).fmod 8) = ((k % 8 : Nat) : Int) := by rw [Int.fmod_eq_emod_of_nonneg _ (by decide)]; omega
  have ed : ((k : Int).fdiv 8) = ((k / 8 : Nat) : Int) := by rw [Int.fdiv_eq_ediv_of_nonneg _ (by decide)]; omega
  refine ⟨by decide, len8, ?_⟩
  rw [em, p2]
  show k_dOp mulSD _ _ _ (.str ⟨#[ch8 k]⟩)
  walk_at "dv"
  refine ⟨divOk (by omega) (by omega), ?_⟩
  walk_at "dv"
  rw [ed]
  refine ⟨⟨by omega, by omega, p3⟩, ?_⟩
  walk_at "dv"
  refine ix_nat hk ?_
  walk_at "dv"
  exact q1
theorem lk_end {n : Nat} : Lk (n + 1) (.str (Str.ofString "end")) := ok_end
theorem lk_cross {n : Nat} : Lk (n + 1) (.str (Str.ofString "cross")) := ok_cross
theorem lk_strk {x : Str} (h : PyData.strOk x = true) {n : Nat} : Lk (n + 1) (.str x) := h
theorem lk_cs {P : List (Str × D)} (hP : HeapP P) {z : Sp2} {c : Cs} (h : RowOf P (z, c)) {n : Nat} : Lk (n + 2) (csD c) := by
  rcases h with ⟨p, hp, e | e⟩ | ⟨p, hp, q, hq, _, s, e1, e⟩
  · cases e
    exact lk_three lk_end (lk_strk (hP.ok p hp)) lk_int
  · cases e
    exact lk_three lk_end (lk_strk (hP.ok p hp)) lk_int
  · cases e
    exact lk_three lk_cross (lk_strk (hP.ok p hp)) (lk_strk (hP.ok q hq))
theorem lk_rows {P : List (Str × D)} (hP : HeapP P) {R : List Row} (hR : Cau P R) {n : Nat} : Lk (n + 4) (.lst (R.map rowD)) := ⟨by rw [List.length_map]; have := hR.len hP; omega, fun d hd => by
  obtain ⟨r, hr, rfl⟩ := List.mem_map.mp hd
  exact lk_two lk_tp (lk_cs hP (hR.mem.mp hr))⟩
theorem lk_hot {P : List (Str × D)} (hP : HeapP P) {R : List Row} (hR : Cau P R) {Z : List Sp2} (hZ : Hot R Z) {n : Nat} : Lk (n + 3) (.lst (Z.map tp)) := ⟨by rw [List.length_map]; have := hZ.len hP hR; omega, fun d hd => by
  obtain ⟨r, hr, rfl⟩ := List.mem_map.mp hd
  exact lk_tp⟩
theorem why_lenR {R : List Row} {s : Sp2} : (whyR R s).length ≤ R.length := List.length_filterMap_le _ _
theorem why_in {P : List (Str × D)} {R : List Row} (hR : Cau P R) {s : Sp2} {d : D} (h : d ∈ whyR R s) : ∃ c, RowOf P (s, c) ∧ d = csD c := by
  obtain ⟨c, hc, e⟩ := mem_why.mp h
  exact ⟨c, hR.mem.mp hc, e⟩
theorem lk_why {P : List (Str × D)} (hP : HeapP P) {R : List Row} (hR : Cau P R) {s : Sp2} {n : Nat} : Lk (n + 3) (.lst (whyR R s)) := ⟨by have := hR.len hP; have := why_lenR (R := R) (s := s); omega, fun d hd => by
  obtain ⟨c, hc, rfl⟩ := why_in hR hd
  exact lk_cs hP hc⟩
theorem lay_hp {P : List (Str × D)} (hP : HeapP P) : ∀ q ∈ hpD P, q.2.lay = true := fun q hq => by
  obtain ⟨p, hp, rfl⟩ := List.mem_map.mp hq
  obtain ⟨a, b, c, d, e, _⟩ := hP.st p hp
  show p.2.lay = true
  rw [e]
  exact lay_t4
theorem same_hpD {P : List (Str × D)} (hP : HeapP P) : SameK (hpD P) (hpD P) := ⟨rfl, hp_flt, lay_hp hP, lay_hp hP⟩
theorem eqbs_hp {P : List (Str × D)} (hP : HeapP P) : D.eqbs ((hpD P).map (·.2)) ((hpD P).map (·.2)) = true := by
  have : ∀ L : List D, (∀ d ∈ L, StrokeOk d) → D.eqbs L L = true := by
    intro L
    induction L with
    | nil => intro _; rfl
    | cons d L ih =>
      intro h
      obtain ⟨a, b, c, e, rfl, _⟩ := h d List.mem_cons_self
      simp [D.eqbs, D.eqb, ih fun x hx => h x (List.mem_cons_of_mem _ hx)]
  refine this _ fun d hd => ?_
  obtain ⟨q, hq, rfl⟩ := List.mem_map.mp hd
  obtain ⟨p, hp, rfl⟩ := List.mem_map.mp hq
  exact hP.st p hp
def nest11 : DS := (sNest 10 (dCall c_causesO [] (dCons (dVar 8) dNil)) (dCall c_hotO [] (dCons (dVar 8) dNil)) (dOr (dNot (dTest (dCall (c_law_like 8) [] (dCons (dVar 10) (dCons (dLst (dCons (dVar 9) (dCons (dCall c_law_hot [] (dCons (dVar 4) dNil)) dNil))) dNil))))) (dTest (dOp neKD (dVar 8) (dVar 4)))) (sRet (dC (.bl false))) (dTup (dCons (dTup (dCons (dC (.int 0)) (dCons (dC (.int 0)) dNil))) (dCons (dTup (dCons (dC (.str "end")) (dCons (dC (.str "a")) (dCons (dC (.int 0)) dNil)))) dNil))))
theorem nest_at {P : List (Str × D)} (hP : HeapP P) {R : List Row} (hR : Cau P R) {s2 s3 s5 s6 s7 s10 s11 s12 s13 s14 : Slot} {N : DN} (h : N.nx [.v .scr, .v .bag, s2, s3, .v (.dic (hpD P)), s5, s6, s7, .v (.dic (hpD P)), .v (.lst (R.map rowD)), .un, s11, s12, s13, s14]) :
    nest11 N [.v .scr, .v .bag, s2, s3, .v (.dic (hpD P)), s5, s6, s7, .v (.dic (hpD P)), .v (.lst (R.map rowD)), s10, s11, s12, s13, s14] := by
  unfold nest11 sNest
  walk_at "dv"
  refine causesO_at hP fun R1 hR1 => ?_
  cases hR.uniq hP hR1
  walk_at "dv"
  refine hotO_at hP fun R2 Z hR2 hZ => ?_
  cases hR.uniq hP hR2
  walk_at "dv"
  refine ⟨_, _, rfl, rfl, by rw [List.length_map, sizeLine_eq]; have := hR.len hP; omega, by decide, ?_⟩
  refine law_hot_ok hP fun R3 Z3 hR3 hZ3 => ?_
  cases hR.uniq hP hR3
  cases hZ.uniq hZ3
  walk_at "dv"
  refine like_ok 8 _ _ ⟨show 2 ≤ 1000000 by decide, fun d hd => by
    simp only [List.mem_cons, List.not_mem_nil, or_false] at hd
    rcases hd with rfl | rfl
    · exact lk_rows hP hR
    · exact lk_hot hP hR hZ⟩ ?_
  walk_at "dv"
  unfold neKD
  refine ⟨same_hpD hP, ?_⟩
  rw [eqbs_hp hP]
  walk_at "dv"
  exact h
def why11 : DS := (sSeq (sSetO 11 (dCall c_whyO [] (dCons (dVar 8) (dCons (dVar 7) dNil)))) (sSeq (sIf (dBorT 11 (dNot (dTest (dCall (c_law_like 8) [] (dCons (dVar 11) (dCons (dLc (iSeq (dVar 9)) (gT 2 (gsCons (gN 13) (gsCons (gN 14) gsNil))) (dTest (dOp eqD (dVar 13) (dVar 7))) (dVar 14) [13, 14]) dNil)))))) (sRet (dC (.bl false))) sNext) (sSeq (sAppend 11 (dTup (dCons (dC (.str "end")) (dCons (dC (.str "a")) (dCons (dC (.int 0)) dNil))))) (sFrz 11 (sIf (dTest (dOp eqD (dCall c_whyO [] (dCons (dVar 8) (dCons (dVar 7) dNil))) (dVar 11))) (sRet (dC (.bl false))) sNext)))))
theorem eqbs_len : ∀ {a b : List D}, D.eqbs a b = true → a.length = b.length
  | [], [], _ => rfl
  | [], _ :: _, h => by simp [D.eqbs] at h
  | _ :: _, [], h => by simp [D.eqbs] at h
  | x :: a, y :: b, h => by
    simp only [D.eqbs, Bool.and_eq_true] at h
    rw [List.length_cons, List.length_cons, eqbs_len h.2]
theorem ok_a : PyData.strOk (Str.ofString "a") = true := by decide +kernel
def endA : D := .tup [.str (Str.ofString "end"), .str (Str.ofString "a"), .int 0]
theorem layN_endA : LayN 1 endA := fun d hd => by
  simp only [List.mem_cons, List.not_mem_nil, or_false] at hd
  rcases hd with rfl | rfl | rfl
  · exact ok_end
  · exact ok_a
  · exact True.intro
theorem layN_why {P : List (Str × D)} (hP : HeapP P) {R : List Row} (hR : Cau P R) {s : Sp2} : ∀ d ∈ whyR R s, LayN 1 d := fun d hd => by
  obtain ⟨c, hc, rfl⟩ := why_in hR hd
  exact cs_layN hP hc
theorem why_turn {P : List (Str × D)} (hP : HeapP P) {R : List Row} (hR : Cau P R) {z : Sp2} {s2 s3 s5 s6 s10 s11 s12 s13 s14 : Slot} {N : DN} (h : ∀ s11, N.nx [.v .scr, .v .bag, s2, s3, .v (.dic (hpD P)), s5, s6, .v (tp z), .v (.dic (hpD P)), .v (.lst (R.map rowD)), s10, s11, s12, s13, s14]) :
    why11 N [.v .scr, .v .bag, s2, s3, .v (.dic (hpD P)), s5, s6, .v (tp z), .v (.dic (hpD P)), .v (.lst (R.map rowD)), s10, s11, s12, s13, s14] := by
  unfold why11
  walk_at "dv"
  refine whyO_at hP fun R1 hR1 => ?_
  cases hR.uniq hP hR1
  walk_at "dv"
  have hl := hR.len hP
  have wl := why_lenR (R := R) (s := z)
  refine lcD_fm rowD (fun r => if r.1 = z then some (csD r.2) else none) R [] _ (fun r hr Q1 Q2 k1 k2 => ?_) (by rw [sizeLine_eq, List.length_nil]; omega) ?_
  · show gT 2 (gsCons (gN 13) (gsCons (gN 14) gsNil)) (.tup [tp r.1, csD r.2]) _ _
    walk_at "dv"
    refine ⟨lay_tp _, lay_tp _, ?_⟩
    rw [eqb_tp]
    by_cases e : r.1 = z
    · rw [decide_eq_true e]
      exact k1 _ (if_pos e)
    · rw [decide_eq_false e]
      exact k2 (if_neg e)
  rw [List.nil_append, show R.filterMap (fun r => if r.1 = z then some (csD r.2) else none) = whyR R z from rfl]
  walk_at "dv"
  refine like_ok 8 _ _ (lk_why hP hR) ?_
  walk_at "dv"
  refine ⟨by rw [sizeLine_eq]; omega, ?_⟩
  walk_at "dv"
  refine whyO_at hP fun R2 hR2 => ?_
  cases hR.uniq hP hR2
  walk_at "dv"
  refine ⟨lay_of (n := 2) (by decide) (layN_why hP hR), lay_of (n := 2) (by decide) fun d hd => ?_, ?_⟩
  · rcases List.mem_append.mp hd with hd | hd
    · exact layN_why hP hR d hd
    · rw [List.mem_singleton.mp hd]
      exact layN_endA
  have ne : D.eqbs (whyR R z) (whyR R z ++ [endA]) = false := Bool.eq_false_iff.mpr fun e => by
    have := eqbs_len e
    rw [List.length_append, List.length_singleton] at this
    omega
  have ne' : D.eqb (.lst (whyR R z)) (.lst (whyR R z ++ [endA])) = false := ne
  unfold endA at ne ne'
  first | rw [ne'] | rw [ne] | simp only [ne]
  walk_at "dv"
  exact h _
def bodyIn : DS := (sSeq nest11 sNext)
def turn11 : DS := (sSeq (sSet 3 (dCall c_law_strokes [] (dCons (dVar 1) (dCons (dOp ixD (dLst (dCons (dCall pullD [] (dCons (dVar 1) (dCons (dC (.int 9)) dNil))) (dCons (dOp addD (dC (.int 17)) (dCall pullD [] (dCons (dVar 1) (dCons (dC (.int 16)) dNil)))) dNil))) (dB intC (dCons (dOp eqD (dCall pullD [] (dCons (dVar 1) (dCons (dC (.int 4)) dNil))) (dC (.int 0))) dNil))) dNil)))) (sSeq (sSet 4 (dB dictC (dCons (dLc (iRng1D (dCons (dB lenD (dCons (dVar 3) dNil)) dNil)) (gN 12) dYes bodyHp [12]) dNil))) (sSeq (sPar 8 9 (dCons (dB dictK (dCons (dVar 4) dNil)) (dCons (dCall c_law_causes [] (dCons (dVar 4) dNil)) dNil))) (sSeq (sFor (iRng1D (dCons (dC (.int 2)) dNil)) (gN 5) bodyIn) (sSeq (sSet 6 (dOp addD (dCall c_law_hot [] (dCons (dVar 4) dNil)) (dLst (dCons (dCall c_law_spot [] (dCons (dVar 1) (dCons (dTup (dCons (dC (.int 0)) (dCons (dC (.int 0)) dNil))) (dCons (dC (.int 40)) dNil)))) dNil)))) (sFor (iSeq (dLst (dCons (dCall c_law_of [] (dCons (dVar 1) (dCons (dVar 6) dNil))) (dCons (dCall c_law_of [] (dCons (dVar 1) (dCons (dVar 6) dNil))) (dCons (dOp ixD (dVar 6) (dUn negD (dC (.int 1)))) dNil))))) (gN 7) why11))))))
theorem k11_is : c_law_k11 = fnD 15 1
  (sSeq (sSet 1 (dCall bagD [] (dCons (dVar 0) dNil))) (sSeq (sFor (iRng1D (dCons (dC (.int 2)) dNil)) (gN 2) turn11) (sRet (dAndV (dOp eqD (dCall c_causesO [] (dCons dD0 dNil)) (dLst dNil)) (dOp eqD (dCall c_hotO [] (dCons dD0 dNil)) (dLst dNil)))))) := rfl
theorem ix_lastT {Z : List Sp2} {z : Sp2} {Q : D → Prop} (q : Q (tp z)) : ixD (.lst ((Z ++ [z]).map tp)) (.int (-1)) Q := by
  have e : atI ((Z ++ [z]).map tp) (-1) = some (tp z) := by
    unfold atI ixN
    rw [List.length_map, List.length_append, List.length_singleton]
    rw [if_neg (by omega), if_pos (by omega), show ((-1 : Int) + ((Z.length + 1 : Nat) : Int)).toNat = Z.length by omega]
    simp
  unfold ixD
  simp only [e]
  exact q
theorem m_at {r1 r2 r3 : Int} (h1 : 0 ≤ r1) (h2 : r1 ≤ 32) (h3 : 0 ≤ r2) (h4 : r2 ≤ 15) {Q : D → Prop} (h : ∀ m : Int, 0 ≤ m → m ≤ 32 → Q (.int m)) : ixD (.lst [.int r1, .int (17 + r2)]) (.int (if r3 = 0 then 1 else 0)) Q := by
  by_cases e : r3 = 0
  · rw [if_pos e, ixL1]
    exact h _ (by omega) (by omega)
  · rw [if_neg e, ixL0]
    exact h _ h1 h2
theorem turn_at {s2 s3 s4 s5 s6 s7 s8 s9 s10 s11 s12 s13 s14 : Slot} {N : DN} (h : ∀ s3 s4 s5 s6 s7 s8 s9 s10 s11, N.nx [.v .scr, .v .bag, s2, s3, s4, s5, s6, s7, s8, s9, s10, s11, s12, s13, s14]) : turn11 N [.v .scr, .v .bag, s2, s3, s4, s5, s6, s7, s8, s9, s10, s11, s12, s13, s14] := by
  unfold turn11
  walk_at "dv"
  refine pull_ok (by decide) (by decide) fun r1 r10 r11 => ?_
  walk_at "dv"
  refine pull_ok (by decide) (by decide) fun r2 r20 r21 => ?_
  walk_at "dv"
  refine pull_ok (by decide) (by decide) fun r3 r30 r31 => ?_
  walk_at "dv"
  refine m_at (by omega) (by omega) (by omega) (by omega) fun m m0 m1 => ?_
  walk_at "dv"
  refine law_strokes_ok m0 (by omega) fun L hL hm => ?_
  have hl : L.length ≤ 32 := by omega
  have hP := P8_heap hl hL
  walk_at "dv"
  refine ⟨by omega, ?_⟩
  refine comp8 hl ?_
  walk_at "dv"
  refine dict8 hl ?_
  walk_at "dv"
  refine ⟨hp_flt, ?_⟩
  refine law_causes_at hP fun R hR => ?_
  walk_at "dv"
  refine ⟨by decide, ?_⟩
  refine forD_inv (fun ρ => ∃ s5 s10, ρ = [.v .scr, .v .bag, s2, .v (.lst L), .v (.dic (hpD (P8 L))), s5, s6, s7, .v (.dic (hpD (P8 L))), .v (.lst (R.map rowD)), s10, s11, s12, s13, s14]) _ _ ⟨_, _, rfl⟩ ?_ ?_
  · rintro d hd ρ M ⟨s5, s10, rfl⟩ hnx hct hrt hbk
    unfold bodyIn
    walk_at "dv"
    refine nest_at hP hR ?_
    walk_at "dv"
    exact hnx _ ⟨_, _, rfl⟩
  rintro ρ ⟨s5, s10, rfl⟩
  walk_at "dv"
  refine law_hot_ok hP fun R3 Z hR3 hZ => ?_
  cases hR.uniq hP hR3
  have zl := hZ.len hP hR
  walk_at "dv"
  refine law_spot_ok (by decide) (by decide) fun d hd => ?_
  obtain ⟨x, y, rfl, _⟩ := hd
  walk_at "dv"
  refine ⟨by rw [List.length_map, sizeLine_eq]; omega, ?_⟩
  have em : Z.map tp ++ [D.tup [D.int x, D.int y]] = (Z ++ [(x, y)]).map tp := by rw [List.map_append]; rfl
  rw [em]
  have ln : ((Z ++ [(x, y)]).map tp).length < 1000000 := by rw [List.length_map, List.length_append, List.length_singleton]; omega
  have ne : (Z ++ [(x, y)]).map tp ≠ [] := by simp
  refine law_of_any ne ln fun d1 h1 => ?_
  obtain ⟨z1, _, rfl⟩ := List.mem_map.mp h1
  walk_at "dv"
  refine law_of_any ne ln fun d2 h2 => ?_
  obtain ⟨z2, _, rfl⟩ := List.mem_map.mp h2
  walk_at "dv"
  refine ix_lastT ?_
  walk_at "dv"
  refine why_turn hP hR fun s11 => ?_
  walk_at "dv"
  refine why_turn hP hR fun s11 => ?_
  walk_at "dv"
  refine why_turn hP hR fun s11 => ?_
  walk_at "dv"
  exact h _ _ _ _ _ _ _ _ _
theorem hp0 : HeapP [] := ⟨List.nodup_nil, fun _ h => (nomatch h), by decide, fun _ h => (nomatch h)⟩
theorem cau_nil {R : List Row} (h : Cau [] R) : R = [] := by
  have := h.len8 (by decide)
  obtain ⟨S, hS, p⟩ := h.of
  have e : S = [] := List.eq_nil_of_length_eq_zero (by rw [hS.perm.length_eq]; rfl)
  subst e
  exact List.eq_nil_of_length_eq_zero (by rw [p.length_eq]; rfl)
theorem plain_k11 : c_law_k11 [.scr] fun d => d = .bl true := by
  rw [k11_is]
  walk_at "dv"
  refine ⟨rfl, ?_⟩
  refine ⟨by decide, ?_⟩
  refine forD_inv (fun ρ => ∃ s2 s3 s4 s5 s6 s7 s8 s9 s10 s11, ρ = [.v .scr, .v .bag, s2, s3, s4, s5, s6, s7, s8, s9, s10, s11, .un, .un, .un]) _ _ ⟨_, _, _, _, _, _, _, _, _, _, rfl⟩ ?_ ?_
  · rintro d hd ρ M ⟨s2, s3, s4, s5, s6, s7, s8, s9, s10, s11, rfl⟩ hnx hct hrt hbk
    exact turn_at fun s3 s4 s5 s6 s7 s8 s9 s10 s11 => hnx _ ⟨_, _, _, _, _, _, _, _, _, _, rfl⟩
  · rintro ρ ⟨s2, s3, s4, s5, s6, s7, s8, s9, s10, s11, rfl⟩
    walk_at "dv"
    refine causesO_at (P := []) hp0 fun R hR => ?_
    cases cau_nil hR
    walk_at "dv"
    refine hotO_at (P := []) hp0 fun R2 Z hR2 hZ => ?_
    cases cau_nil hR2
    have ez : Z = [] := List.eq_nil_iff_forall_not_mem.mpr fun z hz => by
      have := (hZ.mem z).mp hz
      cases this
    subst ez
    walk_at "dv"
end DV

open PySem PySem.W PySem.Calls PyProof.Rows
set_option maxRecDepth 100000 in
set_option maxHeartbeats 0 in
theorem PySem.Challenge.cw_dotmoor_k11_what_makes_a_square_hot_holds : PySem.Challenge.rw_dotmoor_k11_what_makes_a_square_hot.Holds := by
  w_on; o_law
  refine HandSHeadRun.head_any (r := OpenLaw.row PySem.Challenge.rw_dotmoor_k11_what_makes_a_square_hot) (q := view (OpenLaw.row PySem.Challenge.rw_dotmoor_k11_what_makes_a_square_hot).prog [36]) (H := K11.hk) (ob := K11.ob) (M := 1500) (loose := ["DotError", "BadPart", "greatest", "lowest", "plus", "below", "nearest", "square_of", "common", "meet", "causes", "hot", "why", "_law_bag", "_law_pull", "_law_of", "_law_like", "_law_common", "_law_low", "_law_near", "_law_clipped", "_law_spot", "_law_base", "_law_stroke", "_law_beside", "_law_posts", "_law_strokes", "_law_cross", "_law_meet", "_law_causes", "_law_hot"]) (d := HandSHeadRun.topDef (OpenLaw.row PySem.Challenge.rw_dotmoor_k11_what_makes_a_square_hot).prog 36) (kwd := []) K11.ob_eq
    (by kernel_rfl) (fun s => by kernel_rfl) K11.run (by kernel_rfl) (by kernel_rfl) (by kernel_rfl) (by rfl) (by first | assumption | decide +kernel) (by decide +kernel) ⟨rfl, rfl, rfl, rfl, rfl, by decide +kernel⟩ ?hw ?hc
  case hw => w_witness2
  case hc =>
    refine L2.walk_ofE (l := PySem.Challenge.rw_dotmoor_k11_what_makes_a_square_hot) (n := 63) (k := 9) (x := "_law_script") (CX := L2.CX0) rfl (by decide) (by kernel_rfl) ⟨rfl, by decide, by decide⟩ ?F (fun _ _ _ _ z => z)
    intro w mg fa h Y G hmg0
    obtain ⟨K, KX, c⟩ := Y
    have hmg : mg ("law" : PySem.Str) = some (.ref fa) := by
      have e : (HandSHeadRun.topDef (OpenLaw.row PySem.Challenge.rw_dotmoor_k11_what_makes_a_square_hot).prog 36).name = ("law" : PySem.Str) := by kernel_rfl
      rw [← e]
      exact hmg0
    obtain ⟨fd, hb, hF⟩ := K11.facts (P := (PySem.Challenge.rw_dotmoor_k11_what_makes_a_square_hot).prog) (w := w) KX G hmg c
    exact ⟨K, fd, DV.spD K DV.c_law_k11, KX, hb, fun H a ns hl _ hS => DV.law_sp DV.plain_k11 hl hS, hF⟩